import PyProof.Rows.All
import Wide.All
import OpenK.AllK
import Wide.FinOn
import HandS.ForMost
import HandS.Exc
import HandS.ExcOwn
import HandS.TryOnly
import HandS.TryMany
import HandS.WordsExc
import HandS.ExcInit
import HandS.TupAny
import HandS.TupMul
import HandS.TupLe
import HandS.Deep
import HandS.Style
import HandS.DictComp
import HandS.Zip
import HandS.FStr
import HandS.IsInst
import KE.KExcSuper
import HandS.ExcField
import HandS.ExcIs
import KE.KExcIs
import PySem.Challenge.RW_settlescale_k91_errors
set_option Elab.async false
set_option linter.all false
set_option maxRecDepth 100000
set_option maxHeartbeats 4000000
namespace HD
open PySem PySem.Spec PyProof.Rows L2

/-! ### data as trees -/
inductive D where
  | non | bl (b : Bool) | int (i : Int) | str (x : Str) | lst (ds : List D) | tup (ds : List D) | dct (kvs : List (Key × D)) | obj (c : Nat) (fs : List D) | exc (c : Nat) (fs : List D)

/-- what a class number stands for: its address, its attributes in order -/
abbrev Cs := Nat → Addr × List Str

/-- the dict of an exception that is held as a value -/
def ExD (F : Hp) (dd : Option Addr) (ns : List Str) (vs : List V) : Prop := (dd = none ∧ ns = []) ∨ ∃ d fs, dd = some d ∧ F d = some (exd d fs) ∧ ∀ (i : Nat) (n : Str) (v : V), ns[i]? = some n → vs[i]? = some v → fs.lookup n = some v
theorem ExD.mono {F F' : Hp} {dd : Option Addr} {ns : List Str} {vs : List V} (e : Same F F') (h : ExD F dd ns vs) : ExD F' dd ns vs := by
  rcases h with h | ⟨d, fs, h1, h2, h3⟩
  · exact .inl h
  · exact .inr ⟨d, fs, h1, e _ _ h2, h3⟩

mutual
inductive DV (K : PySem.W.Frag) (cs : Cs) (F : Hp) : V → D → Prop
  | non : DV K cs F .non .non
  | bl (b : Bool) : DV K cs F (.bl b) (.bl b)
  | int (i : Int) : DV K cs F (.int i) (.int i)
  | str (x : Str) : DV K cs F (.str x) (.str x)
  | lst {a : Addr} {vs : List V} {ds : List D} : F a = some (.lst vs) → DVs K cs F vs ds → DV K cs F (.ref a) (.lst ds)
  | tup {a : Addr} {vs : List V} {ds : List D} : SqT K F a vs → DVs K cs F vs ds → DV K cs F (.ref a) (.tup ds)
  | dct {a : Addr} {kvs : List (Key × V)} {ds : List (Key × D)} : F a = some (.dK kvs) → DVk K cs F kvs ds → DV K cs F (.ref a) (.dct ds)
  | obj {a dx : Addr} {c : Nat} {vs : List V} {ds : List D} : F a = some (.ins (cs c).1 dx ((cs c).2.zip vs)) → vs.length = (cs c).2.length → DVs K cs F vs ds → DV K cs F (.ref a) (.obj c ds)
  | exc {a : Addr} {dd : Option Addr} {c : Nat} {vs : List V} {ds : List D} : F a = some (exo a (cs c).1 dd) → ExD F dd (cs c).2 vs → vs.length = (cs c).2.length → DVs K cs F vs ds → DV K cs F (.ref a) (.exc c ds)
inductive DVs (K : PySem.W.Frag) (cs : Cs) (F : Hp) : List V → List D → Prop
  | nil : DVs K cs F [] []
  | cons {v : V} {vs : List V} {d : D} {ds : List D} : DV K cs F v d → DVs K cs F vs ds → DVs K cs F (v :: vs) (d :: ds)
inductive DVk (K : PySem.W.Frag) (cs : Cs) (F : Hp) : List (Key × V) → List (Key × D) → Prop
  | nil : DVk K cs F [] []
  | cons {k : Key} {v : V} {vs : List (Key × V)} {d : D} {ds : List (Key × D)} : DV K cs F v d → DVk K cs F vs ds → DVk K cs F ((k, v) :: vs) ((k, d) :: ds)
end

section
variable {K : PySem.W.Frag} {cs : Cs} {F F' H H' : Hp}
theorem same_sqT {a : Addr} {xs : List V} (e : Same F F') (h : SqT K F a xs) : SqT K F' a xs := by
  rcases h with (h | ⟨o, h⟩) | h
  · exact .inl (.inl (e _ _ h))
  · exact .inl (.inr ⟨o, e _ _ h⟩)
  · exact .inr h
mutual
theorem DV.mono (e : Same F F') : ∀ {v : V} {d : D}, DV K cs F v d → DV K cs F' v d
  | _, _, .non => .non
  | _, _, .bl b => .bl b
  | _, _, .int b => .int b
  | _, _, .str b => .str b
  | _, _, .lst h t => .lst (e _ _ h) (DVs.mono e t)
  | _, _, .tup h t => .tup (same_sqT e h) (DVs.mono e t)
  | _, _, .dct h t => .dct (e _ _ h) (DVk.mono e t)
  | _, _, .obj h l t => .obj (e _ _ h) l (DVs.mono e t)
  | _, _, .exc h x l t => .exc (e _ _ h) (x.mono e) l (DVs.mono e t)
theorem DVs.mono (e : Same F F') : ∀ {vs : List V} {ds : List D}, DVs K cs F vs ds → DVs K cs F' vs ds
  | _, _, .nil => .nil
  | _, _, .cons h t => .cons (DV.mono e h) (DVs.mono e t)
theorem DVk.mono (e : Same F F') : ∀ {vs : List (Key × V)} {ds : List (Key × D)}, DVk K cs F vs ds → DVk K cs F' vs ds
  | _, _, .nil => .nil
  | _, _, .cons h t => .cons (DV.mono e h) (DVk.mono e t)
end
theorem DVs.length {vs : List V} {ds : List D} (h : DVs K cs F vs ds) : vs.length = ds.length := by
  induction ds generalizing vs with
  | nil => cases h; rfl
  | cons d ds ih =>
    cases h with
    | cons _ t => simp [ih t]
theorem DVs.get {vs : List V} {ds : List D} (h : DVs K cs F vs ds) {i : Nat} {d : D} (e : ds[i]? = some d) : ∃ v, vs[i]? = some v ∧ DV K cs F v d := by
  induction ds generalizing vs i with
  | nil => simp at e
  | cons x ds ih =>
    cases h with
    | cons hx t =>
      cases i with
      | zero => simp at e; subst e; exact ⟨_, rfl, hx⟩
      | succ i => simpa using ih t (by simpa using e)
theorem DVs.app {vs ws : List V} {ds es : List D} (h : DVs K cs F vs ds) (h' : DVs K cs F ws es) : DVs K cs F (vs ++ ws) (ds ++ es) := by
  induction ds generalizing vs with
  | nil => cases h; exact h'
  | cons x ds ih =>
    cases h with
    | cons hx t => exact .cons hx (ih t)
end

/-! ### owned containers, the frame's environment -/
structure Src where
  cells : List Int
  left : Int
  mixed : Int
  turn : Int
inductive OV where
  | lst (ds : List D) | dct (kvs : List (Key × D)) | ins (c : Nat) (fs : List D) | src (q : Addr) (s : Src)
inductive SV where
  | unk | dat (d : D) | own (o : OV)
def Own (K : PySem.W.Frag) (cs : Cs) (F H : Hp) : OV → V → Prop
  | .lst ds, v => ∃ p vs, v = .ref p ∧ H p = some (.lst vs) ∧ DVs K cs F vs ds
  | .dct ks, v => ∃ p kvs, v = .ref p ∧ H p = some (.dK kvs) ∧ DVk K cs F kvs ks
  | .ins c fs, v => ∃ p dx vs, v = .ref p ∧ H p = some (.ins (cs c).1 dx ((cs c).2.zip vs)) ∧ vs.length ≤ (cs c).2.length ∧ DVs K cs F vs fs
  | .src q s, v => ∃ p, v = .ref p ∧ H p = some (.dK [(.inr "cells", .ref q), (.inr "left", .int s.left), (.inr "mixed", .int s.mixed), (.inr "turn", .int s.turn)]) ∧ H q = some (.lst (s.cells.map .int))
def fp : OV → V → List Addr
  | .src q _, .ref p => [p, q]
  | _, .ref p => [p]
  | _, _ => []
/-- the addresses at fp are tracked -/
theorem Own.trk {K : PySem.W.Frag} {cs : Cs} {F H : Hp} {o : OV} {v : V} (h : Own K cs F H o v) : ∀ b ∈ fp o v, H b ≠ none := by
  intro b hb
  cases o with
  | lst ds => obtain ⟨p, vs, rfl, e, _⟩ := h; simp [fp] at hb; subst hb; rw [e]; simp
  | dct ds => obtain ⟨p, vs, rfl, e, _⟩ := h; simp [fp] at hb; subst hb; rw [e]; simp
  | ins c fs => obtain ⟨p, dx, vs, rfl, e, _⟩ := h; simp [fp] at hb; subst hb; rw [e]; simp
  | src q s =>
    obtain ⟨p, rfl, e, e2⟩ := h
    simp [fp] at hb
    rcases hb with rfl | rfl
    · rw [e]; simp
    · rw [e2]; simp
/-- kept where the frozen part grows and the owner's addresses stay -/
theorem Own.keep {K : PySem.W.Frag} {cs : Cs} {F F' H H' : Hp} {o : OV} {v : V} (h : Own K cs F H o v) (e : Same F F') (k : ∀ b ∈ fp o v, ∀ u, H b = some u → H' b = some u) : Own K cs F' H' o v := by
  cases o with
  | lst ds => obtain ⟨p, vs, rfl, e1, t⟩ := h; exact ⟨p, vs, rfl, k p (by simp [fp]) _ e1, t.mono e⟩
  | dct ds => obtain ⟨p, vs, rfl, e1, t⟩ := h; exact ⟨p, vs, rfl, k p (by simp [fp]) _ e1, t.mono e⟩
  | ins c fs => obtain ⟨p, dx, vs, rfl, e1, l, t⟩ := h; exact ⟨p, dx, vs, rfl, k p (by simp [fp]) _ e1, l, t.mono e⟩
  | src q s => obtain ⟨p, rfl, e1, e2⟩ := h; exact ⟨p, rfl, k p (by simp [fp]) _ e1, k q (by simp [fp]) _ e2⟩

structure Rep (K : PySem.W.Frag) (cs : Cs) (O : List Addr) (F : Hp) (σ : L2.St) (H : Hp) (Γ : List SV) : Prop where
  same : Same F H
  len : σ.length = Γ.length
  dat : ∀ (i : Nat) (d : D), Γ[i]? = some (.dat d) → ∃ v, σ[i]? = some (some v) ∧ DV K cs F v d
  own : ∀ (i : Nat) (o : OV), Γ[i]? = some (.own o) → ∃ v, σ[i]? = some (some v) ∧ Own K cs F H o v ∧ ∀ b ∈ fp o v, b ∈ O
  dis : ∀ (i j : Nat) (o o' : OV) (v v' : V), i ≠ j → Γ[i]? = some (.own o) → Γ[j]? = some (.own o') → σ[i]? = some (some v) → σ[j]? = some (some v') → ∀ b ∈ fp o v, b ∉ fp o' v'
  fr : ∀ b ∈ O, F b = none
  trk : ∀ b ∈ O, H b ≠ none

structure Ext (O : List Addr) (F H : Hp) (O' : List Addr) (F' H' : Hp) : Prop where
  sF : Same F F'
  sH : ∀ b o, H b = some o → b ∉ O → H' b = some o
  tk : ∀ b, H b ≠ none → H' b ≠ none
  nF : ∀ b, H b ≠ none → F b = none → b ∉ O → F' b = none
  nO : ∀ b ∈ O', b ∈ O ∨ H b = none
theorem Ext.refl (O : List Addr) (F H : Hp) : Ext O F H O F H := ⟨Same.refl _, fun _ _ h _ => h, fun _ h => h, fun _ _ h _ => h, fun _ h => .inl h⟩
theorem Ext.trans {O O1 O2 : List Addr} {F F1 F2 H H1 H2 : Hp} (a : Ext O F H O1 F1 H1) (b : Ext O1 F1 H1 O2 F2 H2) : Ext O F H O2 F2 H2 := by
  have nO1 : ∀ c, H c ≠ none → c ∉ O → c ∉ O1 := fun c h n z => by
    rcases a.nO c z with q | q
    · exact n q
    · exact h q
  refine ⟨a.sF.trans b.sF, fun c o h n => b.sH c o (a.sH c o h n) (nO1 c (by rw [h]; simp) n), fun c h => b.tk c (a.tk c h), fun c h1 h2 n => b.nF c (a.tk c h1) (a.nF c h1 h2 n) (nO1 c h1 n), fun c h => ?_⟩
  rcases b.nO c h with q | q
  · exact a.nO c q
  · right
    cases z : H c with
    | none => rfl
    | some o => exact absurd q (a.tk c (by rw [z]; simp))
/-- a new frozen object -/
theorem Ext.new {O : List Addr} {F H : Hp} {p : Addr} {o : HO} (hp : H p = none) (e : Same F H) : Ext O F H O (upd F p o) (upd H p o) := by
  have fp0 : F p = none := e.free hp
  have ne : ∀ b, H b ≠ none → b ≠ p := fun b h z => h (by rw [z]; exact hp)
  refine ⟨fun b u h => ?_, fun b u h _ => ?_, fun b h => ?_, fun b h1 h2 _ => ?_, fun b h => .inl h⟩
  · rw [upd_ne (ne_of_none h fp0)]; exact h
  · rw [upd_ne (ne_of_none h hp)]; exact h
  · rw [upd_ne (ne b h)]; exact h
  · rw [upd_ne (ne b h1)]; exact h2
section
variable {K : PySem.W.Frag} {cs : Cs} {O : List Addr} {F F' H H' : Hp} {σ : L2.St} {Γ : List SV}
/-- behind a step that leaves the owned ones -/
theorem Rep.later (r : Rep K cs O F σ H Γ) (e : Same F F') (e' : Same F' H') (kO : ∀ b ∈ O, ∀ u, H b = some u → H' b = some u) (fO : ∀ b ∈ O, F' b = none) : Rep K cs O F' σ H' Γ where
  same := e'
  len := r.len
  dat := fun i d h => let ⟨v, h1, h2⟩ := r.dat i d h; ⟨v, h1, h2.mono e⟩
  own := fun i o h => let ⟨v, h1, h2, h3⟩ := r.own i o h; ⟨v, h1, h2.keep e fun b hb u => kO b (h3 b hb) u, h3⟩
  dis := r.dis
  fr := fO
  trk := fun b hb => by
    have h := r.trk b hb
    cases z : H b with
    | none => exact absurd z h
    | some o => rw [kO b hb o z]; simp
theorem Rep.new (r : Rep K cs O F σ H Γ) {p : Addr} {o : HO} (hp : H p = none) : Rep K cs O (upd F p o) σ (upd H p o) Γ := by
  have fp0 : F p = none := r.same.free hp
  refine r.later (fun b u h => ?_) (fun b u h => ?_) (fun b hb u h => ?_) (fun b hb => ?_)
  · rw [upd_ne (ne_of_none h fp0)]; exact h
  · by_cases z : b = p
    · subst z; rw [upd_same] at h ⊢; exact h
    · rw [upd_ne z] at h ⊢; exact r.same b u h
  · rw [upd_ne (ne_of_none h hp)]; exact h
  · have : b ≠ p := fun z => r.trk b hb (by rw [z]; exact hp)
    rw [upd_ne this]; exact r.fr b hb
end
end HD
set_option maxRecDepth 100000
set_option maxHeartbeats 4000000
namespace HD
open PySem PySem.Spec PyProof.Rows L2

/-! ### results -/
structure Xc where
  c : Nat
  fs : List D
inductive R (S α : Type) where
  | ok (a : α) (s : S) | err (x : Xc) (s : S) | stuck
def R.bind {S α β : Type} : R S α → (α → S → R S β) → R S β
  | .ok a s, f => f a s
  | .err x s, _ => .err x s
  | .stuck, _ => .stuck
@[simp] theorem R.bind_ok {S α β : Type} (a : α) (s : S) (f : α → S → R S β) : (R.ok a s).bind f = f a s := rfl
@[simp] theorem R.bind_err {S α β : Type} (x : Xc) (s : S) (f : α → S → R S β) : (R.err x s : R S α).bind f = .err x s := rfl
@[simp] theorem R.bind_stuck {S α β : Type} (f : α → S → R S β) : (R.stuck : R S α).bind f = .stuck := rfl
/-- a partial operation -/
def opt {S α : Type} (o : Option α) (s : S) : R S α := match o with
  | some d => .ok d s
  | none => .stuck
@[simp] theorem opt_some {S α : Type} (d : α) (s : S) : opt (some d) s = R.ok d s := rfl
@[simp] theorem opt_none {S α : Type} (s : S) : opt (none : Option α) s = (R.stuck : R S α) := rfl
/-- a pure call within a state -/
def R.lift {S α : Type} (r : R Unit α) (s : S) : R S α := match r with
  | .ok d _ => .ok d s
  | .err x _ => .err x s
  | .stuck => .stuck
@[simp] theorem R.lift_ok {S α : Type} (d : α) (u : Unit) (s : S) : (R.ok d u).lift s = R.ok d s := rfl
@[simp] theorem R.lift_err {S α : Type} (x : Xc) (u : Unit) (s : S) : (R.err x u : R Unit α).lift s = R.err x s := rfl
@[simp] theorem R.lift_stuck {S α : Type} (s : S) : (R.stuck : R Unit α).lift s = R.stuck := rfl

/-- the exception x as it lies -/
def XVr (K : PySem.W.Frag) (cs : Cs) (F : Hp) (x : Xc) (cls : Value) (dd : Option Addr) : Prop :=
  cls = .ref (cs x.c).1 ∧ (((cs x.c).2 = [] ∧ dd = none ∧ x.fs = []) ∨ ∃ a vs, dd = some a ∧ F a = some (.xd ((cs x.c).2.zip vs)) ∧ vs.length = (cs x.c).2.length ∧ DVs K cs F vs x.fs)
theorem XVr.mono {K : PySem.W.Frag} {cs : Cs} {F F' : Hp} {x : Xc} {cls : Value} {dd : Option Addr} (e : Same F F') (h : XVr K cs F x cls dd) : XVr K cs F' x cls dd := by
  obtain ⟨h1, h | ⟨a, vs, h2, h3, h4, h5⟩⟩ := h
  · exact ⟨h1, .inl h⟩
  · exact ⟨h1, .inr ⟨a, vs, h2, e _ _ h3, h4, h5.mono e⟩⟩

/-! ### growth: nothing tracked changes -/
structure Grow (F H F' H' : Hp) : Prop where
  sF : Same F F'
  sH : Same H H'
  sub : Same F' H'
  nF : ∀ b, H b ≠ none → F b = none → F' b = none
theorem Grow.refl {F H : Hp} (e : Same F H) : Grow F H F H := ⟨Same.refl _, Same.refl _, e, fun _ _ h => h⟩
theorem Grow.trk {F H F' H' : Hp} (g : Grow F H F' H') : ∀ b, H b ≠ none → H' b ≠ none := fun b h => by
  cases z : H b with
  | none => exact absurd z h
  | some o => rw [g.sH b o z]; simp
theorem Grow.trans {F H F1 H1 F2 H2 : Hp} (a : Grow F H F1 H1) (b : Grow F1 H1 F2 H2) : Grow F H F2 H2 :=
  ⟨a.sF.trans b.sF, a.sH.trans b.sH, b.sub, fun c h1 h2 => b.nF c (a.trk c h1) (a.nF c h1 h2)⟩
theorem Grow.new {F H : Hp} {p : Addr} {o : HO} (e : Same F H) (hp : H p = none) : Grow F H (upd F p o) (upd H p o) := by
  have fp0 : F p = none := e.free hp
  refine ⟨fun b u h => ?_, fun b u h => ?_, fun b u h => ?_, fun b h1 h2 => ?_⟩
  · rw [upd_ne (ne_of_none h fp0)]; exact h
  · rw [upd_ne (ne_of_none h hp)]; exact h
  · by_cases z : b = p
    · subst z; rw [upd_same] at h ⊢; exact h
    · rw [upd_ne z] at h ⊢; exact e b u h
  · have : b ≠ p := fun z => h1 (by rw [z]; exact hp)
    rw [upd_ne this]; exact h2
theorem Grow.ext {F H F' H' : Hp} (g : Grow F H F' H') (O : List Addr) : Ext O F H O F' H' :=
  ⟨g.sF, fun b o h _ => g.sH b o h, g.trk, fun b h1 h2 _ => g.nF b h1 h2, fun _ h => .inl h⟩
theorem Grow.rep {K : PySem.W.Frag} {cs : Cs} {O : List Addr} {F H F' H' : Hp} {σ : L2.St} {Γ : List SV} (g : Grow F H F' H') (r : Rep K cs O F σ H Γ) : Rep K cs O F' σ H' Γ :=
  r.later g.sF g.sub (fun b _ u h => g.sH b u h) fun b hb => g.nF b (r.trk b hb) (r.fr b hb)

/-! ### what a value is read as -/
abbrev Rl := PySem.W.Frag → Cs → List Addr → Hp → Hp → V → D → Prop
def rDV : Rl := fun K cs _ F _ v d => DV K cs F v d
/-- frozen, or an owned container -/
def rRV : Rl := fun K cs _ F H v d => DV K cs F v d ∨ (∃ p vs ds, v = .ref p ∧ d = .lst ds ∧ H p = some (.lst vs) ∧ DVs K cs F vs ds) ∨ ∃ p vs ds, v = .ref p ∧ d = .dct ds ∧ H p = some (.dK vs) ∧ DVk K cs F vs ds

section
variable {S : Type}
/-- what is wanted behind an expression -/
def Post (rl : Rl) (K : PySem.W.Frag) (cs : Cs) (W : WX) (Γ : S → List SV) (O : List Addr) (σ : L2.St) (Q : VK) (F H : Hp) : R S D → Prop
  | .ok d s' => ∀ F' H' v, Ext O F H O F' H' → Rep K cs O F' σ H' (Γ s') → rl K cs O F' H' v d → Q v H'
  | .err x s' => ∀ F' H' cls dd, Ext O F H O F' H' → Rep K cs O F' σ H' (Γ s') → XVr K cs F' x cls dd → W cls dd σ H'
  | .stuck => False
/-- a goal that results are asked for -/
structure Goal {β : Type} (K : PySem.W.Frag) (cs : Cs) (W : WX) (Γ : S → List SV) (O : List Addr) (σ : L2.St) (G : Hp → Hp → R S β → Prop) : Prop where
  mono : ∀ {F H F' H' r}, G F H r → Ext O F H O F' H' → G F' H' r
  stuck : ∀ {F H}, ¬ G F H .stuck
  err : ∀ {F H x s cls dd}, G F H (.err x s) → Rep K cs O F σ H (Γ s) → XVr K cs F x cls dd → W cls dd σ H
theorem Post.goal {rl : Rl} {K : PySem.W.Frag} {cs : Cs} {W : WX} {Γ : S → List SV} {O : List Addr} {σ : L2.St} {Q : VK} : Goal K cs W Γ O σ (Post rl K cs W Γ O σ Q) where
  mono := fun {F H F' H' r} p e => by
    cases r with
    | ok d s => exact fun F2 H2 v e2 => p F2 H2 v (e.trans e2)
    | err x s => exact fun F2 H2 c d e2 => p F2 H2 c d (e.trans e2)
    | stuck => exact p
  stuck := fun p => p
  err := fun p r x => p _ _ _ _ (Ext.refl _ _ _) r x

/-- an expression's judgement: its reading te, its function m -/
structure PDr (rl : Rl) (X : Cx) (cs : Cs) (W : WX) (Γ : S → List SV) (e : Expr) (te : TE) (m : S → R S D) : Prop where
  pe : PE X e te
  de : ∀ s O F σ H Q, Rep X.K cs O F σ H (Γ s) → Post rl X.K cs W Γ O σ Q F H (m s) → te σ H Q
abbrev PD (X : Cx) (cs : Cs) (W : WX) (Γ : S → List SV) (e : Expr) (te : TE) (m : S → R S D) : Prop := PDr rDV X cs W Γ e te m
abbrev PR (X : Cx) (cs : Cs) (W : WX) (Γ : S → List SV) (e : Expr) (te : TE) (m : S → R S D) : Prop := PDr rRV X cs W Γ e te m
variable {rl : Rl} {X : Cx} {cs : Cs} {W : WX} {Γ : S → List SV} {e a b : Expr} {te ta tb : TE} {m ma mb : S → R S D} {pos : Pos}
theorem PDr.run (h : PDr rl X cs W Γ e te m) {β : Type} {G : Hp → Hp → R S β → Prop} {O : List Addr} {σ : L2.St} (g : Goal X.K cs W Γ O σ G) {s : S} {F H : Hp} {k : D → S → R S β} {Q : VK} (r : Rep X.K cs O F σ H (Γ s)) (q : G F H ((m s).bind k))
    (hQ : ∀ d s' F' H' v, Ext O F H O F' H' → Rep X.K cs O F' σ H' (Γ s') → rl X.K cs O F' H' v d → G F' H' (k d s') → Q v H') : te σ H Q := by
  refine h.de s O F σ H Q r ?_
  cases hm : m s with
  | ok d s' => rw [hm] at q; exact fun F' H' v e1 r1 dv => hQ d s' F' H' v e1 r1 dv (g.mono q e1)
  | err x s' => rw [hm] at q; exact fun F' H' c d e1 r1 xv => g.err (g.mono q e1) r1 xv
  | stuck => rw [hm] at q; exact absurd q g.stuck
/-- the end of a walk: a value -/
theorem Post.fin {rl : Rl} {K : PySem.W.Frag} {O : List Addr} {σ : L2.St} {Q : VK} {F H : Hp} {d : D} {s : S} {v : V} (p : Post rl K cs W Γ O σ Q F H (.ok d s)) (r : Rep K cs O F σ H (Γ s)) (h : rl K cs O F H v d) : Q v H := p F H v (Ext.refl _ _ _) r h
theorem Post.grow {rl : Rl} {K : PySem.W.Frag} {O : List Addr} {σ : L2.St} {Q : VK} {F H F' H' : Hp} {d : D} {s : S} {v : V} (p : Post rl K cs W Γ O σ Q F H (.ok d s)) (r : Rep K cs O F σ H (Γ s)) (g : Grow F H F' H') (h : rl K cs O F' H' v d) : Q v H' := p F' H' v (g.ext O) (g.rep r) h
theorem PDr.pr (h : PD X cs W Γ e te m) : PR X cs W Γ e te m := ⟨h.pe, fun s O F σ H Q r q => h.de s O F σ H Q r (by
  cases hm : m s with
  | ok d s' => rw [hm] at q; exact fun F' H' v e1 r1 dv => q F' H' v e1 r1 (.inl dv)
  | err x s' => rw [hm] at q; exact q
  | stuck => rw [hm] at q; exact q)⟩

/-! ### names, constants -/
theorem pd_var {i : Nat} {d : D} (he : PE X e (tVar i)) (h : ∀ s, (Γ s)[i]? = some (.dat d)) : PD X cs W Γ e (tVar i) (fun s => .ok d s) :=
  ⟨he, fun s O F σ H Q r q => let ⟨v, h1, h2⟩ := r.dat i d (h s); ⟨v, h1, Post.fin q r h2⟩⟩
theorem pr_lst {i : Nat} {g : S → List D} (he : PE X e (tVar i)) (h : ∀ s, (Γ s)[i]? = some (.own (.lst (g s)))) : PR X cs W Γ e (tVar i) (fun s => .ok (.lst (g s)) s) :=
  ⟨he, fun s O F σ H Q r q => by
    obtain ⟨v, h1, ⟨p, vs, rfl, h2, h3⟩, _⟩ := r.own i _ (h s)
    exact ⟨_, h1, Post.fin q r (.inr (.inl ⟨p, vs, _, rfl, rfl, h2, h3⟩))⟩⟩
theorem pr_dct {i : Nat} {g : S → List (Key × D)} (he : PE X e (tVar i)) (h : ∀ s, (Γ s)[i]? = some (.own (.dct (g s)))) : PR X cs W Γ e (tVar i) (fun s => .ok (.dct (g s)) s) :=
  ⟨he, fun s O F σ H Q r q => by
    obtain ⟨v, h1, ⟨p, vs, rfl, h2, h3⟩, _⟩ := r.own i _ (h s)
    exact ⟨_, h1, Post.fin q r (.inr (.inr ⟨p, vs, _, rfl, rfl, h2, h3⟩))⟩⟩
theorem pd_c {v : V} {d : D} (he : PE X e (tC v)) (h : ∀ F, DV X.K cs F v d) : PD X cs W Γ e (tC v) (fun s => .ok d s) :=
  ⟨he, fun s O F σ H Q r q => Post.fin q r (h F)⟩
theorem pd_int {i j pos} : PD X cs W Γ (.Constant (.int i) j pos) (tC (.int i)) (fun s => .ok (.int i) s) := pd_c pe_int fun _ => .int i
theorem pd_bl {i j pos} : PD X cs W Γ (.Constant (.bool i) j pos) (tC (.bl i)) (fun s => .ok (.bl i) s) := pd_c pe_bl fun _ => .bl i
theorem pd_str {i j pos} : PD X cs W Γ (.Constant (.str i) j pos) (tC (.str i)) (fun s => .ok (.str i) s) := pd_c pe_str fun _ => .str i
theorem pd_non {j pos} : PD X cs W Γ (.Constant .none j pos) (tC .non) (fun s => .ok .non s) := pd_c pe_non fun _ => .non

/-! ### operators by values -/
def OpD (rl rl' : Rl) (K : PySem.W.Frag) (cs : Cs) (r : R2) (f : D → D → Option D) : Prop := ∀ (x y z : D), f x y = some z → ∀ (O : List Addr) (F H : Hp) (v w : V) (Q : VK), Same F H → rl K cs O F H v x → rl' K cs O F H w y → (∀ F' H' u, Grow F H F' H' → DV K cs F' u z → Q u H') → r v w H Q
theorem rDV_mono {K : PySem.W.Frag} {O O' : List Addr} {F H F' H' : Hp} {v : V} {d : D} (e : Ext O F H O' F' H') (h : rDV K cs O F H v d) : rDV K cs O F' H' v d := DV.mono e.sF h
theorem pd_two {rl : Rl} {r : R2} {f : D → D → Option D} {e : Expr} (he : PE X e (tOp r ta tb)) (ho : OpD rDV rl X.K cs r f) (ha : PD X cs W Γ a ta ma) (hb : PDr rl X cs W Γ b tb mb) :
    PD X cs W Γ e (tOp r ta tb) (fun s => (ma s).bind fun x s1 => (mb s1).bind fun y s2 => opt (f x y) s2) := by
  refine ⟨he, fun s O F σ H Q r q => ?_⟩
  refine ha.run Post.goal r q fun x s1 F1 H1 v e1 r1 d1 q1 => ?_
  refine hb.run Post.goal r1 q1 fun y s2 F2 H2 w e2 r2 d2 q2 => ?_
  cases hf : f x y with
  | none => rw [hf] at q2; exact q2.elim
  | some z => rw [hf] at q2; exact ho x y z hf O F2 H2 v w Q r2.same (rDV_mono e2 d1) d2 fun F' H' u g dz => Post.grow q2 r2 g dz
theorem pd_bin {op : Operator} {r : R2} {f : D → D → Option D} (hr : OpR X (binaryOp op) r) (ho : OpD rDV rDV X.K cs r f) (ha : PD X cs W Γ a ta ma) (hb : PD X cs W Γ b tb mb) :
    PD X cs W Γ (.BinOp a op b pos) (tOp r ta tb) (fun s => (ma s).bind fun x s1 => (mb s1).bind fun y s2 => opt (f x y) s2) := pd_two (pe_op hr ha.pe hb.pe) ho ha hb
theorem pd_cmp {rl : Rl} {op : CmpOp} {r : R2} {f : D → D → Option D} (hr : OpR X (compareOp op) r) (ho : OpD rDV rl X.K cs r f) (ha : PD X cs W Γ a ta ma) (hb : PDr rl X cs W Γ b tb mb) (hm : behindInMarks op b = false) :
    PD X cs W Γ (.Compare a [op] [b] pos) (tOp r ta tb) (fun s => (ma s).bind fun x s1 => (mb s1).bind fun y s2 => opt (f x y) s2) := pd_two (pe_cmpR hr ha.pe hb.pe hm) ho ha hb
theorem pd_ixR {r : R2} {f : D → D → Option D} (hr : IxR X r) (ho : OpD rDV rDV X.K cs r f) (ha : PD X cs W Γ a ta ma) (hb : PD X cs W Γ b tb mb) (hp : PlainIx b) :
    PD X cs W Γ (.Subscript a b pos) (tOp r ta tb) (fun s => (ma s).bind fun x s1 => (mb s1).bind fun y s2 => opt (f x y) s2) := pd_two (pe_ix hr ha.pe hb.pe hp) ho ha hb
end
end HD
set_option maxRecDepth 100000
set_option maxHeartbeats 4000000
namespace HD
open PySem PySem.Spec PyProof.Rows L2

theorem lim_line {n : Nat} (h : n ≤ 1000000) : n ≤ sizeLine := by rw [sizeLine_eq]; omega
theorem lim_lt {n : Nat} (h : n ≤ 1000000) : n < sizeLine := by rw [sizeLine_eq]; omega

/-! ### as plain data -/
mutual
def toPy : D → PyData
  | .non => .none
  | .bl b => .bool b
  | .int i => .int i
  | .str x => .str x
  | .lst ds => .list (toPys ds)
  | .tup ds => .tuple (toPys ds)
  | .dct _ => .dict []
  | .obj _ _ => .dict []
  | .exc _ _ => .dict []
def toPys : List D → List PyData
  | [] => []
  | d :: ds => toPy d :: toPys ds
end
theorem toPys_map : ∀ ds : List D, toPys ds = ds.map toPy
  | [] => by simp [toPys]
  | d :: ds => by simp [toPys, toPys_map ds]
section
variable {K : PySem.W.Frag} {cs : Cs} {F H : Hp}
theorem rd_sqL {a : Addr} {xs : List V} (e : Same F H) (h : SqL K F a xs) : SqL K H a xs := e.seq h
mutual
theorem DV.dp (e : Same F H) : ∀ {d : D} {v : V}, DV K cs F v d → (toPy d).canLay0 = true → Dp K H v (toPy d)
  | _, _, .non, _ => by simp only [toPy]; exact .non
  | _, _, .bl b, _ => by simp only [toPy]; exact .bl b
  | _, _, .int b, _ => by simp only [toPy]; exact .int b
  | _, _, .str b, _ => by simp only [toPy]; exact .str b
  | _, _, .lst h t, c => by
    simp only [toPy] at c ⊢
    simp only [PyData.canLay0] at c
    exact .lst (SqL.of (e _ _ h)) (DVs.dp e t c)
  | _, _, .tup h t, c => by
    simp only [toPy] at c ⊢
    simp only [PyData.canLay0] at c
    exact .tup (same_sqT e h) (DVs.dp e t c)
  | _, _, .dct h t, c => by simp only [toPy, PyData.canLay0] at c; cases c
  | _, _, .obj h l t, c => by simp only [toPy, PyData.canLay0] at c; cases c
  | _, _, .exc h x l t, c => by simp only [toPy, PyData.canLay0] at c; cases c
theorem DVs.dp (e : Same F H) : ∀ {ds : List D} {vs : List V}, DVs K cs F vs ds → PyData.canLayAll0 (toPys ds) = true → DpAll K H vs (toPys ds)
  | _, _, .nil, _ => by simp only [toPys]; exact .nil
  | _, _, .cons h t, c => by
    simp only [toPys] at c ⊢
    simp only [PyData.canLayAll0, Bool.and_eq_true] at c
    exact .cons (DV.dp e h c.1) (DVs.dp e t c.2)
end
theorem rRV_dp {O : List Addr} (e : Same F H) {d : D} {v : V} (h : rRV K cs O F H v d) (c : (toPy d).canLay0 = true) : Dp K H v (toPy d) := by
  rcases h with h | ⟨p, vs, ds, rfl, rfl, h, t⟩ | ⟨p, vs, ds, rfl, rfl, h, t⟩
  · exact h.dp e c
  · simp only [toPy, PyData.canLay0] at c ⊢
    exact .lst (SqL.of h) (t.dp e c)
  · simp only [toPy, PyData.canLay0] at c; cases c
theorem DVs.rep {vs : List V} {ds : List D} (h : DVs K cs F vs ds) : ∀ n : Nat, DVs K cs F (List.replicate n vs).flatten (List.replicate n ds).flatten
  | 0 => by simp; exact .nil
  | n + 1 => by
    rw [List.replicate_succ, List.replicate_succ, List.flatten_cons, List.flatten_cons]
    exact h.app (DVs.rep h n)
theorem DVs.rev {vs : List V} {ds : List D} (h : DVs K cs F vs ds) : DVs K cs F vs.reverse ds.reverse := by
  induction ds generalizing vs with
  | nil => cases h; exact .nil
  | cons x ds ih =>
    cases h with
    | cons hx t => rw [List.reverse_cons, List.reverse_cons]; exact (ih t).app (.cons hx .nil)
theorem DVs.drop {vs : List V} {ds : List D} (n : Nat) (h : DVs K cs F vs ds) : DVs K cs F (vs.drop n) (ds.drop n) := by
  induction n generalizing vs ds with
  | zero => exact h
  | succ n ih =>
    cases h with
    | nil => exact .nil
    | cons _ t => exact ih t
theorem DVs.take {vs : List V} {ds : List D} (n : Nat) (h : DVs K cs F vs ds) : DVs K cs F (vs.take n) (ds.take n) := by
  induction n generalizing vs ds with
  | zero => exact .nil
  | succ n ih =>
    cases h with
    | nil => exact .nil
    | cons hx t => exact .cons hx (ih t)
end

/-! ### + - * // % ** -/
def addF : D → D → Option D
  | .int i, .int j => some (.int (i + j))
  | .str a, .str b => if a.length + b.length ≤ 1000000 then some (.str (a ++ b)) else none
  | .lst a, .lst b => if a.length + b.length ≤ 1000000 then some (.lst (a ++ b)) else none
  | .tup a, .tup b => if a.length + b.length ≤ 1000000 then some (.tup (a ++ b)) else none
  | _, _ => none
def rStr2 : R2 := fun x y H Q => ∃ i j, x = .str i ∧ y = .str j ∧ i.length + j.length ≤ sizeLine ∧ Q (.str (i ++ j)) H
def rAddA (K : PySem.W.Frag) : R2 := fun x y H Q => rI0 (fun i j => .int (i + j)) x y H Q ∨ (rStr2 x y H Q ∨ (rCat x y H Q ∨ rCatA K x y H Q))
section
variable {X : Cx} {cs : Cs}
theorem op_addA : OpR X (binaryOp .Add) (rAddA X.K) := op_add.or (op_add_str.or (op_cat.or op_catA))
theorem d_add : OpD rDV rDV X.K cs (rAddA X.K) addF := by
  intro x y z hf O F H v w Q e hx hy q
  cases x <;> cases y <;> simp only [addF] at hf <;> try (cases hf; done)
  case int i j =>
    cases hf; cases hx; cases hy
    exact .inl ⟨i, j, rfl, rfl, q _ _ _ (Grow.refl e) (.int _)⟩
  case str a b =>
    split at hf
    · cases hf; cases hx; cases hy
      rename_i hl
      exact .inr (.inl ⟨a, b, rfl, rfl, lim_line hl, q _ _ _ (Grow.refl e) (.str _)⟩)
    · cases hf
  case lst a b =>
    split at hf
    · cases hf
      rename_i hl
      cases hx with
      | lst h1 t1 =>
        cases hy with
        | lst h2 t2 =>
          rw [← t1.length, ← t2.length] at hl
          refine .inr (.inr (.inl ⟨_, _, _, _, rfl, rfl, e _ _ h1, e _ _ h2, lim_line hl, fun p hp => ?_⟩))
          refine q _ _ _ (Grow.new e hp) ?_
          exact .lst upd_same ((t1.app t2).mono (Grow.new e hp).sF)
    · cases hf
  case tup a b =>
    split at hf
    · cases hf
      rename_i hl
      cases hx with
      | tup h1 t1 =>
        cases hy with
        | tup h2 t2 =>
          rw [← t1.length, ← t2.length] at hl
          refine .inr (.inr (.inr ⟨_, _, _, _, rfl, rfl, same_sqT e h1, same_sqT e h2, lim_line hl, fun z => ?_, fun z1 z2 => ?_, fun z1 z2 p hp => ?_⟩))
          · subst z; cases t1; exact q _ _ _ (Grow.refl e) (.tup h2 t2)
          · subst z2; cases t2; rw [List.append_nil] at q; exact q _ _ _ (Grow.refl e) (.tup h1 t1)
          · refine q _ _ _ (Grow.new e hp) ?_
            exact .tup (SqT.of upd_same) ((t1.app t2).mono (Grow.new e hp).sF)
    · cases hf
end
/-! ### the other operators -/
def intF (f : Int → Int → Int) (c : Int → Int → Bool) : D → D → Option D
  | .int i, .int j => if c i j = true then some (.int (f i j)) else none
  | _, _ => none
section
variable {X : Cx} {cs : Cs}
theorem d_int {C : Int → Int → Prop} {f : Int → Int → Int} {c : Int → Int → Bool} (h : ∀ i j, c i j = true → C i j) : OpD rDV rDV X.K cs (rI C fun i j => .int (f i j)) (intF f c) := by
  intro x y z hf O F H v w Q e hx hy q
  cases x <;> cases y <;> simp only [intF] at hf <;> try (cases hf; done)
  split at hf
  · cases hf; cases hx; cases hy
    rename_i hc
    exact ⟨_, _, rfl, rfl, h _ _ hc, q _ _ _ (Grow.refl e) (.int _)⟩
  · cases hf
theorem d_int0 {f : Int → Int → Int} : OpD rDV rDV X.K cs (rI0 fun i j => .int (f i j)) (intF f fun _ _ => true) := by
  intro x y z hf O F H v w Q e hx hy q
  cases x <;> cases y <;> simp only [intF] at hf <;> try (cases hf; done)
  rw [if_pos True.intro] at hf
  cases hf; cases hx; cases hy
  exact ⟨_, _, rfl, rfl, q _ _ _ (Grow.refl e) (.int _)⟩
def subF : D → D → Option D := intF (fun i j => i - j) fun _ _ => true
theorem d_sub : OpD rDV rDV X.K cs (rI0 fun i j => .int (i - j)) subF := d_int0
def divF : D → D → Option D := intF (fun i j => i / j) fun _ j => decide (0 < j ∧ j < 1073741824)
theorem d_div : OpD rDV rDV X.K cs (rI CDiv fun i j => .int (i / j)) divF := d_int fun i j h => by
  have := of_decide_eq_true h
  exact this
def modF : D → D → Option D := intF (fun i j => i % j) fun _ j => decide (0 < j)
theorem d_mod : OpD rDV rDV X.K cs (rI (fun _ j => 0 < j) fun i j => .int (i % j)) modF := d_int fun _ _ h => of_decide_eq_true h
def powF : D → D → Option D := intF (fun i j => i ^ j.toNat) fun i j => decide (0 ≤ j ∧ j ≤ 1000000 ∧ i.natAbs < 2 ^ 64)
theorem d_pow : OpD rDV rDV X.K cs (rI CPow fun i j => .int (i ^ j.toNat)) powF := d_int fun i j h => by
  have := of_decide_eq_true h
  exact this
def strRep (x : Str) (n : Nat) : Str := ⟨(List.replicate n x.cps).foldl (· ++ ·) #[]⟩
def mulF : D → D → Option D
  | .int i, .int j => if (-(2 ^ 64) < i ∧ i < 2 ^ 64) ∨ (-(2 ^ 64) < j ∧ j < 2 ^ 64) then some (.int (i * j)) else none
  | .lst ds, .int k => if -1000000 ≤ k ∧ k ≤ 1000000 ∧ ds.length * k.toNat ≤ 1000000 then some (.lst (List.replicate k.toNat ds).flatten) else none
  | .tup ds, .int k => if ds ≠ [] ∧ 2 ≤ k ∧ k ≤ 1000 ∧ ds.length ≤ 1000 then some (.tup (List.replicate k.toNat ds).flatten) else none
  | .str x, .int k => if 2 ≤ k ∧ k ≤ 1000 ∧ 1 ≤ x.length ∧ x.length ≤ 1000 then some (.str (strRep x k.toNat)) else none
  | _, _ => none
theorem foldl_app_size (a : Array Nat) : ∀ (n : Nat) (acc : Array Nat), ((List.replicate n a).foldl (· ++ ·) acc).size = acc.size + n * a.size
  | 0, acc => by simp
  | n + 1, acc => by
    rw [List.replicate_succ, List.foldl_cons, foldl_app_size a n]
    rw [Array.size_append, Nat.succ_mul]
    omega
theorem strRep_length (x : Str) (n : Nat) : (strRep x n).length = n * x.length := by
  show ((List.replicate n x.cps).foldl (· ++ ·) #[]).size = n * x.cps.size
  rw [foldl_app_size]
  simp
def rRepS : R2 := fun x y H Q => ∃ (z : Str) (k : Int), x = .str z ∧ y = .int k ∧ 2 ≤ k ∧ k ≤ 1000 ∧ 1 ≤ z.length ∧ z.length ≤ 1000 ∧ Q (.str (strRep z k.toNat)) H
theorem op_repS : OpR X (binaryOp .Mult) rRepS := by
  intro pins s σ H x y v u Q I rx ry h
  obtain ⟨z, k, rfl, rfl, h1, h2, h3, h4, q⟩ := h
  obtain ⟨t, rfl⟩ := rx
  obtain ⟨t', rfl⟩ := ry
  have n1 : ¬ k < 1 := by omega
  have n2 : (k == 1 || z.length == 0) = false := by
    rw [Bool.or_eq_false_iff]
    exact ⟨beq_eq_false_iff_ne.mpr (by omega), beq_eq_false_iff_ne.mpr (by omega)⟩
  refine PySem.P.mul_str (by
      rw [decide_eq_false (by omega), decide_eq_false (by omega)]; rfl) (fun _ _ => ?_) (fun _ _ => ?_) ?_
  · have : (1000000 : Int) ≤ (2 ^ 63 - 1) / k := Int.le_ediv_of_mul_le (by omega) (by omega)
    omega
  · have h5 : z.length * k.toNat ≤ 1000 * 1000 := Nat.mul_le_mul h4 (by omega)
    have e : sizeLine = 16777216 := sizeLine_eq
    first
      | exact decide_eq_false (by omega)
      | (simp; omega)
      | (unfold PySem.tooLong; exact decide_eq_false (by omega))
      | (unfold PySem.Builtin.tooLong; exact decide_eq_false (by omega))
  · rw [if_neg n1, if_neg (by rw [n2]; decide)]
    have e : sizeLine = 16777216 := sizeLine_eq
    have h5 : k.toNat * z.length ≤ 1000 * 1000 := Nat.mul_le_mul (by omega) h4
    have h6 := strRep_length z k.toNat
    exact ⟨by show (strRep z k.toNat).length ≤ sizeLine; omega, .str _, H, I.tok _, ⟨_, rfl⟩, q⟩
def rMulA (K : PySem.W.Frag) : R2 := fun x y H Q => rI CMul (fun i j => .int (i * j)) x y H Q ∨ (rRep x y H Q ∨ (rRepT K x y H Q ∨ rRepS x y H Q))
theorem op_mulA : OpR X (binaryOp .Mult) (rMulA X.K) := op_mul.or (op_rep.or (op_repT.or op_repS))
theorem d_mul : OpD rDV rDV X.K cs (rMulA X.K) mulF := by
  intro x y z hf O F H v w Q e hx hy q
  cases x <;> cases y <;> simp only [mulF] at hf <;> try (cases hf; done)
  case int i j =>
    split at hf
    · cases hf; cases hx; cases hy
      rename_i hc
      exact .inl ⟨i, j, rfl, rfl, hc, q _ _ _ (Grow.refl e) (.int _)⟩
    · cases hf
  case str.int a k =>
    split at hf
    · cases hf; cases hx; cases hy
      rename_i hc
      exact .inr (.inr (.inr ⟨a, k, rfl, rfl, hc.1, hc.2.1, hc.2.2.1, hc.2.2.2, q _ _ _ (Grow.refl e) (.str _)⟩))
    · cases hf
  case lst.int a k =>
    split at hf
    · cases hf
      rename_i hc
      cases hy
      cases hx with
      | lst h1 t1 =>
        rw [← t1.length] at hc
        refine .inr (.inl ⟨_, k, _, rfl, rfl, e _ _ h1, by omega, by omega, lim_line hc.2.2, fun p hp => ?_⟩)
        refine q _ _ _ (Grow.new e hp) ?_
        exact .lst upd_same ((t1.rep _).mono (Grow.new e hp).sF)
    · cases hf
  case tup.int a k =>
    split at hf
    · cases hf
      rename_i hc
      cases hy
      cases hx with
      | tup h1 t1 =>
        rw [← t1.length] at hc
        refine .inr (.inr (.inl ⟨_, k, _, rfl, rfl, same_sqT e h1, fun z => hc.1 ?_, hc.2.1, hc.2.2.1, hc.2.2.2, fun p hp => ?_⟩))
        · subst z; cases t1; rfl
        refine q _ _ _ (Grow.new e hp) ?_
        exact .tup (SqT.of upd_same) ((t1.rep _).mono (Grow.new e hp).sF)
    · cases hf

/-! ### comparisons of ints; is -/
def cmpF (p : Int → Int → Bool) : D → D → Option D
  | .int i, .int j => some (.bl (p i j))
  | _, _ => none
theorem d_cmp {p : Int → Int → Bool} : OpD rDV rDV X.K cs (rI0 fun i j => .bl (p i j)) (cmpF p) := by
  intro x y z hf O F H v w Q e hx hy q
  cases x <;> cases y <;> simp only [cmpF] at hf <;> try (cases hf; done)
  cases hf; cases hx; cases hy
  exact ⟨_, _, rfl, rfl, q _ _ _ (Grow.refl e) (.bl _)⟩
def ltF : D → D → Option D := cmpF fun i j => decide (i < j)
def leF : D → D → Option D := cmpF fun i j => decide (i ≤ j)
def gtF : D → D → Option D := cmpF fun i j => decide (j < i)
def geF : D → D → Option D := cmpF fun i j => decide (j ≤ i)
def isNon : D → Bool
  | .non => true
  | _ => false
theorem isNon_v {K : PySem.W.Frag} {F : Hp} {v : V} {d : D} (h : DV K cs F v d) : decide (v = .non) = isNon d := by
  cases h <;> simp [isNon]
def isF (neg : Bool) : D → D → Option D
  | d, .non => some (.bl (if neg then !isNon d else isNon d))
  | .bl a, .bl b => some (.bl (if neg then !decide (a = b) else decide (a = b)))
  | _, _ => none
def rIsA (neg : Bool) : R2 := fun x y H Q => (y = .non ∧ Q (.bl (if neg then !decide (x = .non) else decide (x = .non))) H) ∨ ∃ a b, x = .bl a ∧ y = .bl b ∧ Q (.bl (if neg then !decide (a = b) else decide (a = b))) H
theorem op_isA : OpR X (compareOp .Is) (rIsA false) := OpR.or op_isN op_is_bl
theorem op_isnA : OpR X (compareOp .IsNot) (rIsA true) := OpR.or op_notN op_isnot_bl
theorem d_is {neg : Bool} : OpD rDV rDV X.K cs (rIsA neg) (isF neg) := by
  intro x y z hf O F H v w Q e hx hy q
  cases y with
  | non =>
    have hf' : some (D.bl (if neg then !isNon x else isNon x)) = some z := by cases x <;> exact hf
    cases hf'
    cases hy
    refine .inl ⟨rfl, ?_⟩
    rw [isNon_v hx]
    exact q _ _ _ (Grow.refl e) (.bl _)
  | bl b =>
    cases x <;> simp only [isF] at hf <;> try (cases hf; done)
    cases hf; cases hx; cases hy
    exact .inr ⟨_, _, rfl, rfl, q _ _ _ (Grow.refl e) (.bl _)⟩
  | _ => cases x <;> simp only [isF] at hf <;> cases hf

/-! ### ==, != of data -/
def eqF (neg : Bool) (x y : D) : Option D := if SeqAt.shaped (toPy x) && SeqAt.shaped (toPy y) then some (.bl (if neg then !PyData.eqv (toPy x) (toPy y) else PyData.eqv (toPy x) (toPy y))) else none
theorem eqF_some {neg : Bool} {x y z : D} (h : eqF neg x y = some z) : SeqAt.shaped (toPy x) = true ∧ SeqAt.shaped (toPy y) = true ∧ z = .bl (if neg then !PyData.eqv (toPy x) (toPy y) else PyData.eqv (toPy x) (toPy y)) := by
  unfold eqF at h
  split at h
  · rename_i c
    rw [Bool.and_eq_true] at c
    cases h
    exact ⟨c.1, c.2, rfl⟩
  · cases h
theorem d_eq : OpD rDV rRV X.K cs (rEqD X.K) (eqF false) := by
  intro x y z hf O F H v w Q e hx hy q
  obtain ⟨c1, c2, rfl⟩ := eqF_some hf
  exact ⟨_, _, DV.dp e hx (SeqAt.canLay_of_shaped c1), rRV_dp e hy (SeqAt.canLay_of_shaped c2), c1, c2, q _ _ _ (Grow.refl e) (.bl _)⟩
theorem d_ne : OpD rDV rRV X.K cs (rNeD X.K) (eqF true) := by
  intro x y z hf O F H v w Q e hx hy q
  obtain ⟨c1, c2, rfl⟩ := eqF_some hf
  exact ⟨_, _, DV.dp e hx (SeqAt.canLay_of_shaped c1), rRV_dp e hy (SeqAt.canLay_of_shaped c2), c1, c2, q _ _ _ (Grow.refl e) (.bl _)⟩
end
end HD
set_option maxRecDepth 100000
set_option maxHeartbeats 4000000
namespace HD
open PySem PySem.Spec PyProof.Rows L2

/-! ### dicts -/
def lookD (ks : List (Key × D)) (k : Key) : Option D := (ks.find? fun kv => decide (kv.1 = k)).map (·.2)
def putD (ks : List (Key × D)) (k : Key) (d : D) : List (Key × D) :=
  if (ks.any fun kv => decide (kv.1 = k)) = true then ks.map (fun kv => if kv.1 = k then (kv.1, d) else kv) else ks ++ [(k, d)]
def keyOf : D → Option Key
  | .int i => some (.inl i)
  | .str x => some (.inr x)
  | _ => none
def dKey : Key → D
  | .inl i => .int i
  | .inr x => .str x
section
variable {K : PySem.W.Frag} {cs : Cs} {F H : Hp}
theorem keyOf_v {v : V} {d : D} {k : Key} (h : DV K cs F v d) (e : keyOf d = some k) : v = kV k := by
  cases h <;> simp only [keyOf] at e <;> try (cases e; done)
  · cases e; rfl
  · cases e; rfl
theorem dKey_dv (k : Key) : DV K cs F (kV k) (dKey k) := by cases k <;> constructor
theorem DVk.look {kvs : List (Key × V)} {ks : List (Key × D)} (h : DVk K cs F kvs ks) (k : Key) : (valV kvs k = none ∧ lookD ks k = none) ∨ ∃ v d, valV kvs k = some v ∧ lookD ks k = some d ∧ DV K cs F v d := by
  induction ks generalizing kvs with
  | nil => cases h; exact .inl ⟨rfl, rfl⟩
  | cons p ks ih =>
    cases h with
    | @cons k' v vs d _ hv t =>
      by_cases e : k' = k
      · right
        refine ⟨v, d, ?_, ?_, hv⟩
        · exact valV_pos (p := (k', v)) e
        · simp [lookD, List.find?_cons, e]
      · have e1 : valV ((k', v) :: vs) k = valV vs k := valV_neg (p := (k', v)) e
        have e2 : lookD ((k', d) :: ks) k = lookD ks k := by simp [lookD, List.find?_cons, e]
        rw [e1, e2]
        exact ih t
theorem DVk.any {kvs : List (Key × V)} {ks : List (Key × D)} (h : DVk K cs F kvs ks) (k : Key) : (kvs.any fun kv => decide (kv.1 = k)) = ks.any fun kv => decide (kv.1 = k) := by
  induction ks generalizing kvs with
  | nil => cases h; rfl
  | cons p ks ih =>
    cases h with
    | cons hv t => simp [ih t]
theorem DVk.length {kvs : List (Key × V)} {ks : List (Key × D)} (h : DVk K cs F kvs ks) : kvs.length = ks.length := by
  induction ks generalizing kvs with
  | nil => cases h; rfl
  | cons p ks ih =>
    cases h with
    | cons hv t => simp [ih t]
theorem DVk.map {kvs : List (Key × V)} {ks : List (Key × D)} (h : DVk K cs F kvs ks) {k : Key} {v : V} {d : D} (hv : DV K cs F v d) : DVk K cs F (kvs.map fun kv => if kv.1 = k then (kv.1, v) else kv) (ks.map fun kv => if kv.1 = k then (kv.1, d) else kv) := by
  induction ks generalizing kvs with
  | nil => cases h; exact .nil
  | cons p ks ih =>
    cases h with
    | @cons k' v' vs d' _ hv' t =>
      rw [List.map_cons, List.map_cons]
      by_cases e : k' = k
      · rw [if_pos e, if_pos e]; exact .cons hv (ih t)
      · rw [if_neg e, if_neg e]; exact .cons hv' (ih t)
theorem DVk.app {kvs ls : List (Key × V)} {ks ms : List (Key × D)} (h : DVk K cs F kvs ks) (h' : DVk K cs F ls ms) : DVk K cs F (kvs ++ ls) (ks ++ ms) := by
  induction ks generalizing kvs with
  | nil => cases h; exact h'
  | cons p ks ih =>
    cases h with
    | cons hv t => exact .cons hv (ih t)
theorem DVk.put {kvs : List (Key × V)} {ks : List (Key × D)} (h : DVk K cs F kvs ks) {k : Key} {v : V} {d : D} (hv : DV K cs F v d) : DVk K cs F (putK kvs k v) (putD ks k d) := by
  unfold putK putD
  rw [h.any k]
  split
  · exact h.map hv
  · exact h.app (.cons hv .nil)
theorem DVs.map_str : ∀ {vs : List V} {xs : List Str}, DVs K cs F vs (xs.map .str) → vs = xs.map .str := by
  intro vs xs
  induction xs generalizing vs with
  | nil => intro h; cases h; rfl
  | cons x xs ih =>
    intro h
    cases h with
    | cons hx t => cases hx; rw [ih t]; rfl
end

/-! ### in -/
def isFlat : D → Bool
  | .non => true
  | .bl _ => true
  | .int _ => true
  | .str _ => true
  | _ => false
theorem flat_v {K : PySem.W.Frag} {cs : Cs} {F : Hp} {v : V} {d : D} (h : DV K cs F v d) (f : isFlat d = true) : flatV v = true := by
  cases h <;> first | rfl | cases f
theorem flat_eq {K : PySem.W.Frag} {cs : Cs} {F : Hp} {v w : V} {d e : D} (h : DV K cs F v d) (h' : DV K cs F w e) (f : isFlat d = true) (f' : isFlat e = true) : eqV v w = PyData.eqv (toPy d) (toPy e) := by
  cases h <;> first | (cases f; done) | (cases h' <;> first | (cases f'; done) | simp [eqV, toPy, PyData.eqv])
theorem flat_any {K : PySem.W.Frag} {cs : Cs} {F : Hp} {v : V} {d : D} (h : DV K cs F v d) (f : isFlat d = true) {vs : List V} {ds : List D} (t : DVs K cs F vs ds) (ft : ds.all isFlat = true) :
    vs.all flatV = true ∧ inV v vs = ds.any fun z => PyData.eqv (toPy z) (toPy d) := by
  induction ds generalizing vs with
  | nil => cases t; exact ⟨rfl, rfl⟩
  | cons x ds ih =>
    cases t with
    | cons hx t =>
      rw [List.all_cons, Bool.and_eq_true] at ft
      obtain ⟨i1, i2⟩ := ih t ft.2
      refine ⟨by rw [List.all_cons, flat_v hx ft.1, i1]; rfl, ?_⟩
      unfold inV at i2 ⊢
      rw [List.any_cons, List.any_cons, i2, flat_eq hx h ft.1 f]
def ngB (neg b : Bool) : Bool := if neg then !b else b
def inF (neg : Bool) : D → D → Option D
  | .str a, .str b => match a.cps.toList with
    | [c] => some (.bl (ngB neg (decide (c ∈ b.cps.toList))))
    | _ => none
  | x, .lst ds => if SeqAt.shaped (toPy x) && SeqAt.shaped (toPy (.lst ds)) then some (.bl (ngB neg (ds.any fun z => PyData.eqv (toPy z) (toPy x)))) else none
  | x, .tup ds => if isFlat x && ds.all isFlat then some (.bl (ngB neg (ds.any fun z => PyData.eqv (toPy z) (toPy x)))) else none
  | x, .dct ks => match keyOf x with
    | some k => some (.bl (ngB neg (lookD ks k).isSome))
    | none => none
  | _, _ => none
def rSign (neg : Bool) : R2 := fun x y H Q => ∃ (c : Nat) (z : Str), x = .str ⟨#[c]⟩ ∧ y = .str z ∧ Q (.bl (ngB neg (decide (c ∈ z.cps.toList)))) H
def rInDk (neg : Bool) : R2 := fun x y H Q => ∃ a o, y = .ref a ∧ DGet H a x o ∧ Q (.bl (ngB neg o.isSome)) H
def rInL (K : PySem.W.Frag) (neg : Bool) : R2 := fun x y H Q => ∃ d ds, Dp K H x d ∧ Dp K H y (.list ds) ∧ SeqAt.shaped d = true ∧ SeqAt.shaped (.list ds) = true ∧ Q (.bl (ngB neg (ds.any fun z => PyData.eqv z d))) H
def rInA (K : PySem.W.Frag) (neg : Bool) : R2 := fun x y H Q => rSign neg x y H Q ∨ (rInL K neg x y H Q ∨ (rIn K neg x y H Q ∨ rInDk neg x y H Q))
section
variable {X : Cx} {cs : Cs}
theorem op_inDk (hu : X.A.units + 1 < cLine) : OpR X (compareOp .In) (rInDk false) := by
  intro pins s σ H x y v u Q I rx ry h
  obtain ⟨a, o, rfl, g, q⟩ := h
  cases ry
  exact d_in hu I g rx fun s' I' => ⟨.bl o.isSome, H, I', rfl, q⟩
theorem op_notInDk (hu : X.A.units + 1 < cLine) : OpR X (compareOp .NotIn) (rInDk true) := by
  intro pins s σ H x y v u Q I rx ry h
  obtain ⟨a, o, rfl, g, q⟩ := h
  cases ry
  exact d_notIn hu I g rx fun s' I' => ⟨.bl (!o.isSome), H, I', rfl, q⟩
theorem op_inA (hu : X.A.units + 65 < cLine) : OpR X (compareOp .In) (rInA X.K false) :=
  OpR.or op_in_sign (OpR.or (op_inD hu) (OpR.or op_in_seq (op_inDk (by omega))))
theorem op_ninA (hu : X.A.units + 65 < cLine) : OpR X (compareOp .NotIn) (rInA X.K true) :=
  OpR.or op_notIn_sign (OpR.or (op_notInD hu) (OpR.or op_notIn_seq (op_notInDk (by omega))))
theorem d_inLst {neg : Bool} {O : List Addr} {K : PySem.W.Frag} {cs : Cs} {F H : Hp} {v w : V} {x : D} {ds : List D} {z : D} {Q : VK} (hf : (if SeqAt.shaped (toPy x) && SeqAt.shaped (toPy (.lst ds)) then some (D.bl (ngB neg (ds.any fun z => PyData.eqv (toPy z) (toPy x)))) else none) = some z)
    (e : Same F H) (hx : DV K cs F v x) (hy : rRV K cs O F H w (.lst ds)) (q : ∀ F' H' u, Grow F H F' H' → DV K cs F' u z → Q u H') : rInL K neg v w H Q := by
  split at hf
  · rename_i c
    rw [Bool.and_eq_true] at c
    cases hf
    have hy' := rRV_dp e hy (SeqAt.canLay_of_shaped c.2)
    have c2 := c.2
    simp only [toPy] at hy' c2
    refine ⟨_, _, DV.dp e hx (SeqAt.canLay_of_shaped c.1), hy', c.1, c2, ?_⟩
    have ee : ((toPys ds).any fun z => PyData.eqv z (toPy x)) = ds.any fun z => PyData.eqv (toPy z) (toPy x) := by rw [toPys_map, List.any_map]; rfl
    rw [ee]
    exact q _ _ _ (Grow.refl e) (.bl _)
  · cases hf
theorem d_inDct {neg : Bool} {O : List Addr} {K : PySem.W.Frag} {cs : Cs} {F H : Hp} {v w : V} {x : D} {ks : List (Key × D)} {z : D} {Q : VK} (hf : (match keyOf x with
    | some k => some (D.bl (ngB neg (lookD ks k).isSome))
    | none => none) = some z)
    (e : Same F H) (hx : DV K cs F v x) (hy : rRV K cs O F H w (.dct ks)) (q : ∀ F' H' u, Grow F H F' H' → DV K cs F' u z → Q u H') : rInDk neg v w H Q := by
  split at hf
  · rename_i k hk
    cases hf
    have hv := keyOf_v hx hk
    subst hv
    obtain ⟨p, kvs, rfl, hp, t⟩ : ∃ p kvs, w = .ref p ∧ H p = some (.dK kvs) ∧ DVk K cs F kvs ks := by
      rcases hy with hy | ⟨p, vs, ds, rfl, hd, h, t⟩ | ⟨p, vs, ds, rfl, hd, h, t⟩
      · cases hy with
        | dct h t => exact ⟨_, _, rfl, e _ _ h, t⟩
      · cases hd
      · cases hd; exact ⟨p, vs, rfl, h, t⟩
    refine ⟨p, valV kvs k, rfl, DGet.k hp, ?_⟩
    have ee : (valV kvs k).isSome = (lookD ks k).isSome := by
      rcases t.look k with ⟨h1, h2⟩ | ⟨v, d, h1, h2, _⟩
      · rw [h1, h2]; rfl
      · rw [h1, h2]; rfl
    rw [ee]
    exact q _ _ _ (Grow.refl e) (.bl _)
  · cases hf
theorem d_in' {neg : Bool} : OpD rDV rRV X.K cs (rInA X.K neg) (inF neg) := by
  intro x y z hf O F H v w Q e hx hy q
  cases y with
  | str b =>
    cases x <;> simp only [inF] at hf <;> try (cases hf; done)
    rename_i a
    split at hf
    · rename_i c hc
      cases hf; cases hx
      rcases hy with hy | ⟨p, vs, ds, rfl, hd, h, t⟩ | ⟨p, vs, ds, rfl, hd, h, t⟩
      · cases hy
        refine .inl ⟨c, b, ?_, rfl, q _ _ _ (Grow.refl e) (.bl _)⟩
        congr 1
        cases a with
        | mk cps => congr 1; exact Array.toList_inj.mp hc
      · cases hd
      · cases hd
    · cases hf
  | lst ds =>
    have hf' : (if SeqAt.shaped (toPy x) && SeqAt.shaped (toPy (.lst ds)) then some (D.bl (ngB neg (ds.any fun z => PyData.eqv (toPy z) (toPy x)))) else none) = some z := by cases x <;> exact hf
    exact .inr (.inl (d_inLst hf' e hx hy q))
  | tup ds =>
    have hf' : (if isFlat x && ds.all isFlat then some (D.bl (ngB neg (ds.any fun z => PyData.eqv (toPy z) (toPy x)))) else none) = some z := by cases x <;> exact hf
    split at hf'
    · rename_i c
      rw [Bool.and_eq_true] at c
      cases hf'
      rcases hy with hy | ⟨p, vs, ds, rfl, hd, h, t⟩ | ⟨p, vs, ds, rfl, hd, h, t⟩
      · cases hy with
        | tup h t =>
          obtain ⟨f1, f2⟩ := flat_any hx c.1 t c.2
          refine .inr (.inr (.inl ⟨_, _, rfl, .inr (same_sqT e h), flat_v hx c.1, f1, ?_⟩))
          rw [f2]
          exact q _ _ _ (Grow.refl e) (.bl _)
      · cases hd
      · cases hd
    · cases hf'
  | dct ks =>
    have hf' : (match keyOf x with
      | some k => some (D.bl (ngB neg (lookD ks k).isSome))
      | none => none) = some z := by cases x <;> exact hf
    exact .inr (.inr (.inr (d_inDct hf' e hx hy q)))
  | _ => cases x <;> simp only [inF] at hf <;> cases hf

/-! ### subscripts -/
def rGetD : R2 := fun x y H Q => ∃ a v, x = .ref a ∧ DGet H a y (some v) ∧ Q v H
theorem ix_dct (hu : X.A.units + 1 < cLine) : IxR X rGetD := by
  intro value slice pins s σ H x y v u Q I rx ry h hs
  obtain ⟨a, z, rfl, g, q⟩ := h
  cases rx
  exact tail_any (dict_typeIs I g) PySem.F.slot_dict_getitem.lookup (d_getItem hu I g ry fun w' s3 I3 rw' => ⟨z, H, I3, rw', q⟩) hs
def rIxA (K : PySem.W.Frag) : R2 := fun x y H Q => rIx K x y H Q ∨ rGetD x y H Q
theorem ix_all (hu : X.A.units + 1 < cLine) : IxR X (rIxA X.K) := ix_seq.or (ix_dct hu)
def ixF : D → D → Option D
  | .lst ds, .int i => atI ds i
  | .tup ds, .int i => atI ds i
  | .str z, .int i => if z.length ≤ 1000000 then (atI z.cps.toList i).map fun c => .str ⟨#[c]⟩ else none
  | .dct ks, x => (keyOf x).bind fun k => lookD ks k
  | _, _ => none
theorem DVs.atI {K : PySem.W.Frag} {cs : Cs} {F : Hp} {vs : List V} {ds : List D} (t : DVs K cs F vs ds) {i : Int} {d : D} (h : L2.atI ds i = some d) : ∃ v, L2.atI vs i = some v ∧ DV K cs F v d := by
  unfold L2.atI at h ⊢
  rw [t.length]
  cases e : ixN ds.length i with
  | none => rw [e] at h; cases h
  | some j =>
    rw [e] at h
    exact t.get h
theorem d_ix : OpD rRV rDV X.K cs (rIxA X.K) ixF := by
  intro x y z hf O F H v w Q e hx hy q
  cases x with
  | lst ds =>
    cases y <;> simp only [ixF] at hf <;> try (cases hf; done)
    cases hy
    obtain ⟨p, vs, rfl, hp, t⟩ : ∃ p vs, v = .ref p ∧ H p = some (.lst vs) ∧ DVs X.K cs F vs ds := by
      rcases hx with hx | ⟨p, vs, ds, rfl, hd, h, t⟩ | ⟨p, vs, ds, rfl, hd, h, t⟩
      · cases hx with
        | lst h t => exact ⟨_, _, rfl, e _ _ h, t⟩
      · cases hd; exact ⟨p, vs, rfl, h, t⟩
      · cases hd
    obtain ⟨u, h1, h2⟩ := t.atI hf
    exact .inl (.inl ⟨p, vs, _, u, rfl, rfl, SqL.of hp, h1, q _ _ _ (Grow.refl e) h2⟩)
  | tup ds =>
    cases y <;> simp only [ixF] at hf <;> try (cases hf; done)
    cases hy
    rcases hx with hx | ⟨p, vs, ds, rfl, hd, h, t⟩ | ⟨p, vs, ds, rfl, hd, h, t⟩
    · cases hx with
      | tup h t =>
        obtain ⟨u, h1, h2⟩ := t.atI hf
        exact .inl (.inr (.inl ⟨_, _, _, u, rfl, rfl, same_sqT e h, h1, q _ _ _ (Grow.refl e) h2⟩))
    · cases hd
    · cases hd
  | str a =>
    cases y <;> simp only [ixF] at hf <;> try (cases hf; done)
    split at hf
    · rename_i hl
      cases hy
      rcases hx with hx | ⟨p, vs, ds, rfl, hd, h, t⟩ | ⟨p, vs, ds, rfl, hd, h, t⟩
      · cases hx
        cases ea : L2.atI a.cps.toList ‹Int› with
        | none => rw [ea] at hf; cases hf
        | some c =>
          rw [ea] at hf; cases hf
          exact .inl (.inr (.inr ⟨a, _, c, rfl, rfl, lim_line hl, ea, q _ _ _ (Grow.refl e) (.str _)⟩))
      · cases hd
      · cases hd
    · cases hf
  | dct ks =>
    have hf' : ((keyOf y).bind fun k => lookD ks k) = some z := by cases y <;> exact hf
    cases hk : keyOf y with
    | none => rw [hk] at hf'; cases hf'
    | some k =>
      rw [hk] at hf'
      have hv := keyOf_v hy hk
      subst hv
      obtain ⟨p, kvs, rfl, hp, t⟩ : ∃ p kvs, v = .ref p ∧ H p = some (.dK kvs) ∧ DVk X.K cs F kvs ks := by
        rcases hx with hx | ⟨p, vs, ds, rfl, hd, h, t⟩ | ⟨p, vs, ds, rfl, hd, h, t⟩
        · cases hx with
          | dct h t => exact ⟨_, _, rfl, e _ _ h, t⟩
        · cases hd
        · cases hd; exact ⟨p, vs, rfl, h, t⟩
      have hl : lookD ks k = some z := hf'
      rcases t.look k with ⟨h1, h2⟩ | ⟨u, d, h1, h2, h3⟩
      · rw [hl] at h2; cases h2
      · rw [hl] at h2; cases h2
        refine .inr ⟨p, u, rfl, ?_, q _ _ _ (Grow.refl e) h3⟩
        rw [← h1]
        exact DGet.k hp
  | _ => cases y <;> simp only [ixF] at hf <;> cases hf
end
end HD
set_option maxRecDepth 100000
set_option maxHeartbeats 4000000
namespace HD
open PySem PySem.Spec PyProof.Rows L2

section
variable {S : Type} {X : Cx} {cs : Cs} {W : WX} {Γ : S → List SV} {e a b : Expr} {es : List Expr} {te ta tb : TE} {t : TA} {m ma mb : S → R S D} {pos : Pos}
/-! ### argument lists -/
structure PAD (X : Cx) (cs : Cs) (W : WX) (Γ : S → List SV) (es : List Expr) (t : TA) (ms : (β : Type) → S → (List D → S → R S β) → R S β) : Prop where
  pa : PA X es t
  de : ∀ {β : Type} {G : Hp → Hp → R S β → Prop} {O : List Addr} {σ : L2.St} (_ : Goal X.K cs W Γ O σ G) {s : S} {F H : Hp} {k : List D → S → R S β} {Q : List V → Hp → Prop}, Rep X.K cs O F σ H (Γ s) → G F H (ms β s k) →
    (∀ ds s' F' H' vs, Ext O F H O F' H' → Rep X.K cs O F' σ H' (Γ s') → DVs X.K cs F' vs ds → ds.length = es.length → G F' H' (k ds s') → Q vs H') → t σ H Q
variable {ms : (β : Type) → S → (List D → S → R S β) → R S β}
theorem pad_nil : PAD X cs W Γ [] tNil (fun _ s k => k [] s) := by
  refine ⟨pa_nil, ?_⟩
  intro β G O σ g s F H k Q r q h
  exact h [] s F H [] (Ext.refl _ _ _) r .nil rfl q
theorem pad_cons (ha : PD X cs W Γ a ta ma) (hr : PAD X cs W Γ es t ms) (hs : starEach (a :: es) X.env = (false, eval a X.env) :: starEach es X.env := by rfl) :
    PAD X cs W Γ (a :: es) (tCons ta t) (fun β s k => (ma s).bind fun x s1 => ms β s1 fun ds s2 => k (x :: ds) s2) := by
  refine ⟨pa_cons ha.pe hr.pa hs, ?_⟩
  intro β G O σ g s F H k Q r q h
  refine ha.run g r q fun x s1 F1 H1 v e1 r1 d1 q1 => ?_
  refine hr.de g r1 q1 fun ds s2 F2 H2 vs e2 r2 d2 l2 q2 => ?_
  exact h _ _ _ _ _ (e1.trans e2) r2 (.cons (rDV_mono e2 d1) d2) (by simp [l2]) q2

/-! ### displays -/
theorem pd_tup {x1} (h : PAD X cs W Γ es t ms) : PD X cs W Γ (.Tuple es x1 pos) (tTup t) (fun s => ms D s fun ds s1 => opt (if ds.length ≤ 1000000 then some (.tup ds) else none) s1) := by
  refine ⟨pe_tup h.pa, fun s O F σ H Q r q => ?_⟩
  refine h.de Post.goal r q fun ds s1 F1 H1 vs e1 r1 d1 l1 q1 => ?_
  split at q1
  · rename_i hl
    refine ⟨lim_line (by rw [d1.length]; exact hl), fun p hp => ?_⟩
    exact Post.grow q1 r1 (Grow.new r1.same hp) (.tup (SqT.of upd_same) (d1.mono (Grow.new r1.same hp).sF))
  · exact q1.elim
theorem pd_lst (h : PAD X cs W Γ es t ms) : PD X cs W Γ (.List es pos) (tLst t) (fun s => ms D s fun ds s1 => opt (if ds.length ≤ 1000000 then some (.lst ds) else none) s1) := by
  refine ⟨pe_lst h.pa, fun s O F σ H Q r q => ?_⟩
  refine h.de Post.goal r q fun ds s1 F1 H1 vs e1 r1 d1 l1 q1 => ?_
  split at q1
  · rename_i hl
    refine ⟨lim_line (by rw [d1.length]; exact hl), fun p hp => ?_⟩
    exact Post.grow q1 r1 (Grow.new r1.same hp) (.lst upd_same (d1.mono (Grow.new r1.same hp).sF))
  · exact q1.elim

/-! ### subscripts of containers -/
theorem pd_cmpR {op : CmpOp} {r : R2} {f : D → D → Option D} (hr : OpR X (compareOp op) r) (ho : OpD rDV rRV X.K cs r f) (ha : PD X cs W Γ a ta ma) (hb : PR X cs W Γ b tb mb) (hm : behindInMarks op b = false) :
    PD X cs W Γ (.Compare a [op] [b] pos) (tOp r ta tb) (fun s => (ma s).bind fun x s1 => (mb s1).bind fun y s2 => opt (f x y) s2) := pd_two (pe_cmpR hr ha.pe hb.pe hm) ho ha hb
theorem d_ixD : OpD rDV rDV X.K cs (rIxA X.K) ixF := fun x y z hf O F H v w Q e hx hy q => d_ix x y z hf O F H v w Q e (.inl hx) hy q
theorem pd_ix (hu : X.A.units + 1 < cLine) (ha : PD X cs W Γ a ta ma) (hb : PD X cs W Γ b tb mb) (hp : PlainIx b) :
    PD X cs W Γ (.Subscript a b pos) (tOp (rIxA X.K) ta tb) (fun s => (ma s).bind fun x s1 => (mb s1).bind fun y s2 => opt (ixF x y) s2) := pd_ixR (ix_all hu) d_ixD ha hb hp
/-- of an owned list | dict -/
theorem pd_ixO {i : Nat} {g : S → D} (hu : X.A.units + 1 < cLine) (ha : PE X a (tVar i)) (h : ∀ s, (∃ ds, (Γ s)[i]? = some (.own (.lst ds)) ∧ g s = .lst ds) ∨ ∃ ds, (Γ s)[i]? = some (.own (.dct ds)) ∧ g s = .dct ds) (hb : PD X cs W Γ b tb mb) (hp : PlainIx b) :
    PD X cs W Γ (.Subscript a b pos) (tOp (rIxA X.K) (tVar i) tb) (fun s => (mb s).bind fun y s2 => opt (ixF (g s2) y) s2) := by
  refine ⟨pe_ix (ix_all hu) ha hb.pe hp, fun s O F σ H Q r q => ?_⟩
  obtain ⟨v, h1⟩ : ∃ v, σ[i]? = some (some v) := by
    rcases h s with ⟨ds, h2, _⟩ | ⟨ds, h2, _⟩
    · obtain ⟨v, h1, _⟩ := r.own i _ h2; exact ⟨v, h1⟩
    · obtain ⟨v, h1, _⟩ := r.own i _ h2; exact ⟨v, h1⟩
  refine ⟨v, h1, ?_⟩
  refine hb.run Post.goal r q fun y s2 F2 H2 w e2 r2 d2 q2 => ?_
  have hv : rRV X.K cs O F2 H2 v (g s2) := by
    rcases h s2 with ⟨ds, h2, h3⟩ | ⟨ds, h2, h3⟩
    · obtain ⟨v', h1', ⟨p, vs, rfl, hp', t'⟩, _⟩ := r2.own i _ h2
      rw [h1] at h1'; cases h1'
      rw [h3]; exact .inr (.inl ⟨p, vs, _, rfl, rfl, hp', t'⟩)
    · obtain ⟨v', h1', ⟨p, vs, rfl, hp', t'⟩, _⟩ := r2.own i _ h2
      rw [h1] at h1'; cases h1'
      rw [h3]; exact .inr (.inr ⟨p, vs, _, rfl, rfl, hp', t'⟩)
  cases hf : ixF (g s2) y with
  | none => rw [hf] at q2; exact q2.elim
  | some z => rw [hf] at q2; exact d_ix _ y z hf O F2 H2 v w Q r2.same hv d2 fun F' H' u g' dz => Post.grow q2 r2 g' dz

/-! ### one operand -/
def UnD (rl : Rl) (K : PySem.W.Frag) (cs : Cs) (r : V → Hp → VK → Prop) (f : D → Option D) : Prop := ∀ (x z : D), f x = some z → ∀ (O : List Addr) (F H : Hp) (v : V) (Q : VK), Same F H → rl K cs O F H v x → (∀ F' H' u, Grow F H F' H' → DV K cs F' u z → Q u H') → r v H Q
theorem pd_one {rl : Rl} {r : V → Hp → VK → Prop} {f : D → Option D} {e : Expr} {te : TE} (he : PE X e te) (ht : ∀ σ H Q, ta σ H (fun v H1 => r v H1 Q) → te σ H Q) (ho : UnD rl X.K cs r f) (ha : PDr rl X cs W Γ a ta ma) :
    PD X cs W Γ e te (fun s => (ma s).bind fun x s1 => opt (f x) s1) := by
  refine ⟨he, fun s O F σ H Q r q => ht _ _ _ ?_⟩
  refine ha.run Post.goal r q fun x s1 F1 H1 v e1 r1 d1 q1 => ?_
  cases hf : f x with
  | none => rw [hf] at q1; exact q1.elim
  | some z => rw [hf] at q1; exact ho x z hf O F1 H1 v Q r1.same d1 fun F' H' u g dz => Post.grow q1 r1 g dz

/-- an attribute: which place it has in which class -/
structure AtOk (K : PySem.W.Frag) (cs : Cs) (f : Str) (at_ : Nat → Option Nat) : Prop where
  ok : ∀ c k, at_ c = some k → Cls K (cs c).1 ∧ NoAttr K (cs c).1 f ∧ (cs c).2[k]? = some f ∧ (cs c).2.Nodup
theorem zip_lookup {N : List Str} {vs : List V} {k : Nat} {f : Str} {v : V} (nd : N.Nodup) (h1 : N[k]? = some f) (h2 : vs[k]? = some v) : (N.zip vs).lookup f = some v := by
  induction N generalizing vs k with
  | nil => simp at h1
  | cons x N ih =>
    cases vs with
    | nil => simp at h2
    | cons y vs =>
      cases k with
      | zero => simp at h1 h2; subst h1; subst h2; simp [List.lookup]
      | succ k =>
        have h1' : N[k]? = some f := by simpa using h1
        have h2' : vs[k]? = some v := by simpa using h2
        have ne : f ≠ x := fun z => (List.nodup_cons.mp nd).1 (z ▸ List.mem_of_getElem? h1')
        have : (f == x) = false := by simpa using ne
        simp only [List.zip_cons_cons, List.lookup_cons, this]
        exact ih (List.nodup_cons.mp nd).2 h1' h2'
def fldF (at_ : Nat → Option Nat) : D → Option D
  | .obj c ds => (at_ c).bind fun k => ds[k]?
  | _ => none
def rFld (K : PySem.W.Frag) (f : Str) : V → Hp → VK → Prop := fun x H1 Q => ∃ a C dx fs v, x = .ref a ∧ H1 a = some (.ins C dx fs) ∧ Cls K C ∧ NoAttr K C f ∧ fs.lookup f = some v ∧ Q v H1
theorem d_fld {f : Str} {at_ : Nat → Option Nat} (h : AtOk X.K cs f at_) : UnD rDV X.K cs (rFld X.K f) (fldF at_) := by
  intro x z hf O F H v Q e hx q
  cases hx with
  | @obj a dx c vs ds ha hl t =>
    simp only [fldF] at hf
    cases hk : at_ c with
    | none => rw [hk] at hf; cases hf
    | some k =>
      rw [hk] at hf
      have hf' : ds[k]? = some z := hf
      obtain ⟨u, h1, h2⟩ := t.get hf'
      obtain ⟨o1, o2, o3, o4⟩ := h.ok c k hk
      exact ⟨_, _, _, _, u, rfl, e _ _ ha, o1, o2, zip_lookup o4 o3 h1, q _ _ _ (Grow.refl e) h2⟩
  | _ => simp only [fldF] at hf <;> cases hf
theorem pd_fld {f : Str} {at_ : Nat → Option Nat} (h : AtOk X.K cs f at_) (ha : PD X cs W Γ a ta ma) (hb : attributeBase a f X.env (eval a X.env) = eval a X.env) :
    PD X cs W Γ (.Attribute a f pos) (tFld X.K ta f) (fun s => (ma s).bind fun x s1 => opt (fldF at_ x) s1) := pd_one (ta := ta) (r := rFld X.K f) (pe_fld ha.pe hb) (fun _ _ _ q => q) (d_fld h) ha

/-! ### built-in functions -/
def CbD (K : PySem.W.Frag) (cs : Cs) (r : List V → Hp → VK → Prop) (f : List D → Option D) : Prop := ∀ (xs : List D) (z : D), f xs = some z → ∀ (F H : Hp) (vs : List V) (Q : VK), Same F H → DVs K cs F vs xs → (∀ F' H' u, Grow F H F' H' → DV K cs F' u z → Q u H') → r vs H Q
theorem pd_cb {r : List V → Hp → VK → Prop} {f : List D → Option D} {x : Str} {id : String} {p : Pos} (hc : CallR X (.builtin id) r) (ho : CbD X.K cs r f) (hg : Gl X x) (hm : X.mg x = none) (hv : bootBuiltins x = some (.builtin id)) (ha : PAD X cs W Γ (e :: es) t ms)
    (hn : x ≠ "__name__" := by decide) (hdb : (x == ("__debug__" : Str)) = false := by decide) (he : starEach (e :: es) X.env = (false, eval e X.env) :: starEach es X.env := by rfl) (hpl : (backTo pos (starEach es X.env)).any (·.1) = false := by rfl) :
    PD X cs W Γ (.Call (.Name x p) (e :: es) [] pos) (tCB r t) (fun s => ms D s fun ds s1 => opt (f ds) s1) := by
  refine ⟨pe_callB hc hg hm hv ha.pa hn hdb he hpl, fun s O F σ H Q r' q => ?_⟩
  refine ha.de Post.goal r' q fun ds s1 F1 H1 vs e1 r1 d1 l1 q1 => ?_
  cases hf : f ds with
  | none => rw [hf] at q1; exact q1.elim
  | some z => rw [hf] at q1; exact ho ds z hf F1 H1 vs Q r1.same d1 fun F' H' u g dz => Post.grow q1 r1 g dz
theorem pd_cty {r : List V → Hp → VK → Prop} {f : List D → Option D} {x : Str} {T : String} {p : Pos} (hc : CallR X (.type T) r) (ho : CbD X.K cs r f) (hg : Gl X x) (hm : X.mg x = none) (hv : bootBuiltins x = some (.type T)) (ha : PAD X cs W Γ (e :: es) t ms)
    (hn : x ≠ "__name__" := by decide) (hdb : (x == ("__debug__" : Str)) = false := by decide) (he : starEach (e :: es) X.env = (false, eval e X.env) :: starEach es X.env := by rfl) (hpl : (backTo pos (starEach es X.env)).any (·.1) = false := by rfl) :
    PD X cs W Γ (.Call (.Name x p) (e :: es) [] pos) (tCB r t) (fun s => ms D s fun ds s1 => opt (f ds) s1) := by
  refine ⟨pe_callTy hc hg hm hv ha.pa hn hdb he hpl, fun s O F σ H Q r' q => ?_⟩
  refine ha.de Post.goal r' q fun ds s1 F1 H1 vs e1 r1 d1 l1 q1 => ?_
  cases hf : f ds with
  | none => rw [hf] at q1; exact q1.elim
  | some z => rw [hf] at q1; exact ho ds z hf F1 H1 vs Q r1.same d1 fun F' H' u g dz => Post.grow q1 r1 g dz
/-- one argument, readable: len(found), list(found) -/
def rOne (r : List V → Hp → VK → Prop) : V → Hp → VK → Prop := fun v H Q => r [v] H Q
theorem pd_cb1 {r : List V → Hp → VK → Prop} {f : D → Option D} {x : Str} {id : String} {p : Pos} (hc : CallR X (.builtin id) r) (ho : UnD rRV X.K cs (rOne r) f) (hg : Gl X x) (hm : X.mg x = none) (hv : bootBuiltins x = some (.builtin id)) (ha : PR X cs W Γ e te m)
    (hn : x ≠ "__name__" := by decide) (hdb : (x == ("__debug__" : Str)) = false := by decide) (hs : starEach [e] X.env = (false, eval e X.env) :: starEach [] X.env := by rfl) :
    PD X cs W Γ (.Call (.Name x p) [e] [] pos) (tCB r (tCons te tNil)) (fun s => (m s).bind fun x s1 => opt (f x) s1) :=
  pd_one (ta := te) (r := rOne r) (pe_callB hc hg hm hv (pa_cons ha.pe pa_nil hs) hn hdb hs rfl) (fun _ _ _ q => q) ho ha
theorem pd_cty1 {r : List V → Hp → VK → Prop} {f : D → Option D} {x : Str} {T : String} {p : Pos} (hc : CallR X (.type T) r) (ho : UnD rRV X.K cs (rOne r) f) (hg : Gl X x) (hm : X.mg x = none) (hv : bootBuiltins x = some (.type T)) (ha : PR X cs W Γ e te m)
    (hn : x ≠ "__name__" := by decide) (hdb : (x == ("__debug__" : Str)) = false := by decide) (hs : starEach [e] X.env = (false, eval e X.env) :: starEach [] X.env := by rfl) :
    PD X cs W Γ (.Call (.Name x p) [e] [] pos) (tCB r (tCons te tNil)) (fun s => (m s).bind fun x s1 => opt (f x) s1) :=
  pd_one (ta := te) (r := rOne r) (pe_callTy hc hg hm hv (pa_cons ha.pe pa_nil hs) hn hdb hs rfl) (fun _ _ _ q => q) ho ha

/-! len -/
def lenF : D → Option D
  | .lst ds => some (.int (ds.length : Int))
  | .tup ds => some (.int (ds.length : Int))
  | .dct ks => some (.int (ks.length : Int))
  | .str x => if x.length ≤ 1000000 then some (.int (x.length : Int)) else none
  | _ => none
def rLenA (K : PySem.W.Frag) : List V → Hp → VK → Prop := fun xs H Q => (∃ x n, xs = [x] ∧ LenV K x H n ∧ Q (.int n) H) ∨ ∃ a kvs, xs = [V.ref a] ∧ H a = some (.dK kvs) ∧ Q (.int kvs.length) H
theorem call_lenA : CallR X (.builtin "len") (rLenA X.K) := CallR.or call_len call_lenD
theorem rRV_lst {O : List Addr} {K : PySem.W.Frag} {F H : Hp} {v : V} {ds : List D} (e : Same F H) (h : rRV K cs O F H v (.lst ds)) : ∃ p vs, v = .ref p ∧ H p = some (.lst vs) ∧ DVs K cs F vs ds := by
  rcases h with h | ⟨p, vs, ds, rfl, hd, h, t⟩ | ⟨p, vs, ds, rfl, hd, h, t⟩
  · cases h with
    | lst h t => exact ⟨_, _, rfl, e _ _ h, t⟩
  · cases hd; exact ⟨p, vs, rfl, h, t⟩
  · cases hd
theorem rRV_tup {O : List Addr} {K : PySem.W.Frag} {F H : Hp} {v : V} {ds : List D} (e : Same F H) (h : rRV K cs O F H v (.tup ds)) : ∃ p vs, v = .ref p ∧ SqT K H p vs ∧ DVs K cs F vs ds := by
  rcases h with h | ⟨p, vs, ds, rfl, hd, h, t⟩ | ⟨p, vs, ds, rfl, hd, h, t⟩
  · cases h with
    | tup h t => exact ⟨_, _, rfl, same_sqT e h, t⟩
  · cases hd
  · cases hd
theorem rRV_dct {O : List Addr} {K : PySem.W.Frag} {F H : Hp} {v : V} {ks : List (Key × D)} (e : Same F H) (h : rRV K cs O F H v (.dct ks)) : ∃ p vs, v = .ref p ∧ H p = some (.dK vs) ∧ DVk K cs F vs ks := by
  rcases h with h | ⟨p, vs, ds, rfl, hd, h, t⟩ | ⟨p, vs, ds, rfl, hd, h, t⟩
  · cases h with
    | dct h t => exact ⟨_, _, rfl, e _ _ h, t⟩
  · cases hd
  · cases hd; exact ⟨p, vs, rfl, h, t⟩
theorem rRV_str {O : List Addr} {K : PySem.W.Frag} {F H : Hp} {v : V} {x : Str} (h : rRV K cs O F H v (.str x)) : v = .str x := by
  rcases h with h | ⟨p, vs, ds, rfl, hd, h, t⟩ | ⟨p, vs, ds, rfl, hd, h, t⟩
  · cases h; rfl
  · cases hd
  · cases hd
theorem d_len : UnD rRV X.K cs (rOne (rLenA X.K)) lenF := by
  intro x z hf O F H v Q e hx q
  cases x <;> simp only [lenF] at hf <;> try (cases hf; done)
  case str a =>
    split at hf
    · rename_i hl
      cases hf
      have := rRV_str hx; subst this
      exact .inl ⟨_, _, rfl, ⟨lim_line hl, rfl⟩, q _ _ _ (Grow.refl e) (.int _)⟩
    · cases hf
  case lst ds =>
    cases hf
    obtain ⟨p, vs, rfl, h, t⟩ := rRV_lst e hx
    rw [← t.length] at q
    exact .inl ⟨_, _, rfl, .inl ⟨vs, SqL.of h, rfl⟩, q _ _ _ (Grow.refl e) (.int _)⟩
  case tup ds =>
    cases hf
    obtain ⟨p, vs, rfl, h, t⟩ := rRV_tup e hx
    rw [← t.length] at q
    exact .inl ⟨_, _, rfl, .inr ⟨vs, h, rfl⟩, q _ _ _ (Grow.refl e) (.int _)⟩
  case dct ds =>
    cases hf
    obtain ⟨p, vs, rfl, h, t⟩ := rRV_dct e hx
    rw [← t.length] at q
    exact .inr ⟨_, _, rfl, h, q _ _ _ (Grow.refl e) (.int _)⟩
/-! list(x), tuple(x) -/
def seqOf : D → Option (List D)
  | .lst ds => some ds
  | .tup ds => some ds
  | _ => none
def listF (d : D) : Option D := (seqOf d).map .lst
def tupleF (d : D) : Option D := (seqOf d).map .tup
theorem d_list : UnD rRV X.K cs (rOne fun xs H Q => ∃ p ys, xs = [.ref p] ∧ (SqL X.K H p ys ∨ SqT X.K H p ys) ∧ ∀ l, H l = none → Q (.ref l) (upd H l (.lst ys))) listF := by
  intro x z hf O F H v Q e hx q
  cases x <;> simp only [listF, seqOf, Option.map] at hf <;> try (cases hf; done)
  case lst ds =>
    cases hf
    obtain ⟨p, vs, rfl, h, t⟩ := rRV_lst e hx
    exact ⟨_, vs, rfl, .inl (SqL.of h), fun l hl => q _ _ _ (Grow.new e hl) (.lst upd_same (t.mono (Grow.new e hl).sF))⟩
  case tup ds =>
    cases hf
    obtain ⟨p, vs, rfl, h, t⟩ := rRV_tup e hx
    exact ⟨_, vs, rfl, .inr h, fun l hl => q _ _ _ (Grow.new e hl) (.lst upd_same (t.mono (Grow.new e hl).sF))⟩
theorem d_tuple : UnD rRV X.K cs (rOne fun xs H Q => ∃ p ys, xs = [.ref p] ∧ ((SqL X.K H p ys ∧ ∀ l, H l = none → Q (.ref l) (upd H l (.tup ys))) ∨ (SqT X.K H p ys ∧ Q (.ref p) H))) tupleF := by
  intro x z hf O F H v Q e hx q
  cases x <;> simp only [tupleF, seqOf, Option.map] at hf <;> try (cases hf; done)
  case lst ds =>
    cases hf
    obtain ⟨p, vs, rfl, h, t⟩ := rRV_lst e hx
    exact ⟨_, vs, rfl, .inl ⟨SqL.of h, fun l hl => q _ _ _ (Grow.new e hl) (.tup (SqT.of upd_same) (t.mono (Grow.new e hl).sF))⟩⟩
  case tup ds =>
    cases hf
    rcases hx with hx | ⟨p, vs, ds, rfl, hd, h, t⟩ | ⟨p, vs, ds, rfl, hd, h, t⟩
    · cases hx with
      | tup h t => exact ⟨_, _, rfl, .inr ⟨same_sqT e h, q _ _ _ (Grow.refl e) (.tup h t)⟩⟩
    · cases hd
    · cases hd
end
end HD
set_option maxRecDepth 100000
set_option maxHeartbeats 4000000
namespace HD
open PySem PySem.Spec PyProof.Rows L2

/-! ### tests -/
section
variable {S : Type} {X : Cx} {cs : Cs} {W : WX} {Γ : S → List SV} {e a b : Expr} {es : List Expr} {te ta tb : TE} {tt tu : TT} {m : S → R S D} {mt mu : S → R S Bool} {pos : Pos}
def PostT (K : PySem.W.Frag) (cs : Cs) (W : WX) (Γ : S → List SV) (O : List Addr) (σ : L2.St) (Q : Bool → Hp → Prop) (F H : Hp) : R S Bool → Prop
  | .ok b s' => ∀ F' H', Ext O F H O F' H' → Rep K cs O F' σ H' (Γ s') → Q b H'
  | .err x s' => ∀ F' H' cls dd, Ext O F H O F' H' → Rep K cs O F' σ H' (Γ s') → XVr K cs F' x cls dd → W cls dd σ H'
  | .stuck => False
theorem PostT.goal {K : PySem.W.Frag} {O : List Addr} {σ : L2.St} {Q : Bool → Hp → Prop} : Goal K cs W Γ O σ (PostT K cs W Γ O σ Q) where
  mono := fun {F H F' H' r} p e => by
    cases r with
    | ok d s => exact fun F2 H2 e2 => p F2 H2 (e.trans e2)
    | err x s => exact fun F2 H2 c d e2 => p F2 H2 c d (e.trans e2)
    | stuck => exact p
  stuck := fun p => p
  err := fun p r x => p _ _ _ _ (Ext.refl _ _ _) r x
structure PTD (X : Cx) (cs : Cs) (W : WX) (Γ : S → List SV) (e : Expr) (tt : TT) (m : S → R S Bool) : Prop where
  pt : PT X e tt
  de : ∀ s O F σ H Q, Rep X.K cs O F σ H (Γ s) → PostT X.K cs W Γ O σ Q F H (m s) → tt σ H Q
theorem PTD.run (h : PTD X cs W Γ e tt mt) {β : Type} {G : Hp → Hp → R S β → Prop} {O : List Addr} {σ : L2.St} (g : Goal X.K cs W Γ O σ G) {s : S} {F H : Hp} {k : Bool → S → R S β} {Q : Bool → Hp → Prop} (r : Rep X.K cs O F σ H (Γ s)) (q : G F H ((mt s).bind k))
    (hQ : ∀ d s' F' H', Ext O F H O F' H' → Rep X.K cs O F' σ H' (Γ s') → G F' H' (k d s') → Q d H') : tt σ H Q := by
  refine h.de s O F σ H Q r ?_
  cases hm : mt s with
  | ok d s' => rw [hm] at q; exact fun F' H' e1 r1 => hQ d s' F' H' e1 r1 (g.mono q e1)
  | err x s' => rw [hm] at q; exact fun F' H' c d e1 r1 xv => g.err (g.mono q e1) r1 xv
  | stuck => rw [hm] at q; exact absurd q g.stuck
theorem PostT.fin {K : PySem.W.Frag} {O : List Addr} {σ : L2.St} {Q : Bool → Hp → Prop} {F H : Hp} {d : Bool} {s : S} (p : PostT K cs W Γ O σ Q F H (.ok d s)) (r : Rep K cs O F σ H (Γ s)) : Q d H := p F H (Ext.refl _ _ _) r
/-- a value that is a bool -/
def boolR {S : Type} (d : D) (s : S) : R S Bool := match d with
  | .bl b => .ok b s
  | _ => .stuck
@[simp] theorem boolR_bl {S : Type} (b : Bool) (s : S) : boolR (.bl b) s = .ok b s := rfl
theorem ptd_of {tt : TT} (hp : PT X e tt) (ht : ∀ σ H Q, te σ H (fun v H1 => ∃ k, v = .bl k ∧ Q k H1) → tt σ H Q) (h : ∀ s O F σ H Q, Rep X.K cs O F σ H (Γ s) → Post rDV X.K cs W Γ O σ Q F H (m s) → te σ H Q) : PTD X cs W Γ e tt (fun s => (m s).bind fun d s1 => boolR d s1) := by
  refine ⟨hp, fun s O F σ H Q r q => ht _ _ _ ?_⟩
  refine h s O F σ H _ r ?_
  cases hm : m s with
  | ok d s' =>
    rw [hm] at q
    intro F' H' v e1 r1 dv
    cases d <;> simp only [R.bind, boolR] at q <;> try (exact q.elim)
    cases dv
    exact ⟨_, rfl, q F' H' e1 r1⟩
  | err x s' => rw [hm] at q; exact q
  | stuck => rw [hm] at q; exact q
/-- a comparison -/
theorem ptd_cmp {rl : Rl} {op : CmpOp} {r : R2} {f : D → D → Option D} {ma mb : S → R S D} (hr : OpR X (compareOp op) r) (ho : OpD rDV rl X.K cs r f) (ha : PD X cs W Γ a ta ma) (hb : PDr rl X cs W Γ b tb mb) (hm : behindInMarks op b = false) :
    PTD X cs W Γ (.Compare a [op] [b] pos) (tTest (tOp r ta tb)) (fun s => ((ma s).bind fun x s1 => (mb s1).bind fun y s2 => opt (f x y) s2).bind fun d s1 => boolR d s1) :=
  ptd_of (te := tOp r ta tb) (pt_cmpR hr ha.pe hb.pe hm) (fun _ _ _ q => q) (pd_cmp (pos := pos) hr ho ha hb hm).de
/-- an expression whose value is a bool -/
theorem ptd_val (h : PD X cs W Γ e te m) (he : ∀ whole, isTrue e X.env whole = (do let v ← whole; standAt e.pos; holding [v] (truthy v)) := by intro _; rfl) : PTD X cs W Γ e (tB te) (fun s => (m s).bind fun d s1 => boolR d s1) :=
  ptd_of (te := te) (pt_val h.pe he) (fun _ _ _ q => q) h.de
theorem ptd_not (h : PTD X cs W Γ a tt mt) : PTD X cs W Γ (.UnaryOp .Not a pos) (tNot tt) (fun s => (mt s).bind fun b s1 => .ok (!b) s1) := by
  refine ⟨pt_not h.pt, fun s O F σ H Q r q => ?_⟩
  exact h.run PostT.goal r q fun b s1 F1 H1 e1 r1 q1 => PostT.fin q1 r1
/-- .. and ..: of tests -/
structure PWD (X : Cx) (cs : Cs) (W : WX) (Γ : S → List SV) (e : Expr) (tt : TT) (m : S → R S Bool) : Prop where
  pw : PW X e tt
  de : ∀ s O F σ H Q, Rep X.K cs O F σ H (Γ s) → PostT X.K cs W Γ O σ Q F H (m s) → tt σ H Q
theorem PWD.ptd (h : PWD X cs W Γ e tt mt) : PTD X cs W Γ e tt mt := ⟨h.pw.pt, h.de⟩
theorem pwd_and1 (h : PTD X cs W Γ a tt mt) : PWD X cs W Γ (.BoolOp .And [a] pos) tt mt := ⟨pw_and1 h.pt, h.de⟩
theorem pwd_or1 (h : PTD X cs W Γ a tt mt) : PWD X cs W Γ (.BoolOp .Or [a] pos) tt mt := ⟨pw_or1 h.pt, h.de⟩
variable {rest : List Expr}
theorem pwd_and (ha : PTD X cs W Γ a tt mt) (hb : PWD X cs W Γ (.BoolOp .And (b :: rest) pos) tu mu) : PWD X cs W Γ (.BoolOp .And (a :: b :: rest) pos) (tAnd tt tu) (fun s => (mt s).bind fun c s1 => if c then mu s1 else .ok false s1) := by
  refine ⟨pw_and ha.pt hb.pw, fun s O F σ H Q r q => ?_⟩
  refine ha.run PostT.goal r q fun c s1 F1 H1 e1 r1 q1 => ?_
  cases c with
  | true => exact hb.de s1 O F1 σ H1 Q r1 q1
  | false => exact PostT.fin q1 r1
theorem pwd_or (ha : PTD X cs W Γ a tt mt) (hb : PWD X cs W Γ (.BoolOp .Or (b :: rest) pos) tu mu) : PWD X cs W Γ (.BoolOp .Or (a :: b :: rest) pos) (tOr tt tu) (fun s => (mt s).bind fun c s1 => if c then .ok true s1 else mu s1) := by
  refine ⟨pw_or ha.pt hb.pw, fun s O F σ H Q r q => ?_⟩
  refine ha.run PostT.goal r q fun c s1 F1 H1 e1 r1 q1 => ?_
  cases c with
  | true => exact PostT.fin q1 r1
  | false => exact hb.de s1 O F1 σ H1 Q r1 q1
/-- .. as values -/
theorem pd_and1 {op} (h : PD X cs W Γ a te m) : PD X cs W Γ (.BoolOp op [a] pos) te m := ⟨pe_one h.pe, h.de⟩
variable {ma mb : S → R S D}
theorem pd_and (ha : PD X cs W Γ a ta ma) (hb : PD X cs W Γ (.BoolOp .And (b :: rest) pos) tb mb) : PD X cs W Γ (.BoolOp .And (a :: b :: rest) pos) (tAndV ta tb) (fun s => (ma s).bind fun d s1 => (boolR d s1).bind fun c s2 => if c then mb s2 else .ok (.bl false) s2) := by
  refine ⟨pe_and ha.pe hb.pe, fun s O F σ H Q r q => ?_⟩
  refine ha.run Post.goal r q fun d s1 F1 H1 v e1 r1 d1 q1 => ?_
  cases d <;> simp only [R.bind, boolR] at q1 <;> try (exact q1.elim)
  rename_i c
  cases d1
  refine ⟨c, rfl, ?_⟩
  cases c with
  | true => exact hb.de s1 O F1 σ H1 Q r1 q1
  | false => exact Post.fin q1 r1 (.bl false)
theorem pd_or (ha : PD X cs W Γ a ta ma) (hb : PD X cs W Γ (.BoolOp .Or (b :: rest) pos) tb mb) : PD X cs W Γ (.BoolOp .Or (a :: b :: rest) pos) (tOrV ta tb) (fun s => (ma s).bind fun d s1 => (boolR d s1).bind fun c s2 => if c then .ok (.bl true) s2 else mb s2) := by
  refine ⟨pe_or ha.pe hb.pe, fun s O F σ H Q r q => ?_⟩
  refine ha.run Post.goal r q fun d s1 F1 H1 v e1 r1 d1 q1 => ?_
  cases d <;> simp only [R.bind, boolR] at q1 <;> try (exact q1.elim)
  rename_i c
  cases d1
  refine ⟨c, rfl, ?_⟩
  cases c with
  | true => exact Post.fin q1 r1 (.bl true)
  | false => exact hb.de s1 O F1 σ H1 Q r1 q1
theorem pd_not (ha : PD X cs W Γ a ta ma) : PD X cs W Γ (.UnaryOp .Not a pos) (tNotV ta) (fun s => (ma s).bind fun d s1 => (boolR d s1).bind fun c s2 => .ok (.bl (!c)) s2) := by
  refine ⟨pe_not ha.pe, fun s O F σ H Q r q => ?_⟩
  refine ha.run Post.goal r q fun d s1 F1 H1 v e1 r1 d1 q1 => ?_
  cases d <;> simp only [R.bind, boolR] at q1 <;> try (exact q1.elim)
  cases d1
  exact ⟨_, rfl, Post.fin q1 r1 (.bl _)⟩
/-- a if t else b -/
theorem pd_if {c : Expr} (hc : PTD X cs W Γ c tt mt) (ha : PD X cs W Γ a ta ma) (hb : PD X cs W Γ b tb mb) : PD X cs W Γ (.IfExp c a b pos) (tIf tt ta tb) (fun s => (mt s).bind fun c s1 => if c then ma s1 else mb s1) := by
  refine ⟨pe_ifExp hc.pt ha.pe hb.pe, fun s O F σ H Q r q => ?_⟩
  refine hc.run Post.goal r q fun c s1 F1 H1 e1 r1 q1 => ?_
  cases c with
  | true => exact ha.de s1 O F1 σ H1 Q r1 q1
  | false => exact hb.de s1 O F1 σ H1 Q r1 q1
/-- a chain a op b op' c -/
theorem pd_chain {rl : Rl} {op op' : CmpOp} {r r' : R2} {f f' : D → D → Option D} {c : Expr} {tc : TE} {mc : S → R S D} (hr : OpR X (compareOp op) r) (hr' : OpR X (compareOp op') r') (ho : OpD rDV rDV X.K cs r f) (ho' : OpD rDV rl X.K cs r' f') (ha : PD X cs W Γ a ta ma) (hb : PD X cs W Γ b tb mb) (hc : PDr rl X cs W Γ c tc mc)
    (he : PE X e (tChain r r' ta tb tc)) : PD X cs W Γ e (tChain r r' ta tb tc) (fun s => (ma s).bind fun x s1 => (mb s1).bind fun y s2 => (opt (f x y) s2).bind fun d s3 => (boolR d s3).bind fun k s4 => if k then (mc s4).bind fun z s5 => opt (f' y z) s5 else .ok (.bl false) s4) := by
  refine ⟨he, fun s O F σ H Q r0 q => ?_⟩
  refine ha.run Post.goal r0 q fun x s1 F1 H1 v e1 r1 d1 q1 => ?_
  refine hb.run Post.goal r1 q1 fun y s2 F2 H2 w e2 r2 d2 q2 => ?_
  cases hf : f x y with
  | none => rw [hf] at q2; exact q2.elim
  | some z =>
    rw [hf] at q2
    refine ho x y z hf O F2 H2 v w _ r2.same (rDV_mono e2 d1) d2 fun F3 H3 u g dz => ?_
    have q3 := Goal.mono Post.goal q2 (g.ext O)
    cases z <;> simp only [R.bind, opt, boolR] at q3 <;> try (exact q3.elim)
    rename_i k
    cases dz
    refine ⟨k, rfl, ?_⟩
    have r3 := g.rep r2
    cases k with
    | false => exact Post.fin q3 r3 (.bl false)
    | true =>
      rw [if_pos rfl]
      refine hc.run Post.goal r3 q3 fun z s5 F5 H5 u5 e5 r5 d5 q5 => ?_
      cases hf' : f' y z with
      | none => rw [hf'] at q5; exact q5.elim
      | some z' => rw [hf'] at q5; exact ho' y z z' hf' O F5 H5 w u5 Q r5.same (rDV_mono ((g.ext O).trans e5) d2) d5 fun F' H' u g dz => Post.grow q5 r5 g dz
end
end HD
set_option maxRecDepth 100000
set_option maxHeartbeats 4000000
namespace HD
open PySem PySem.Spec PyProof.Rows L2

/-! ### environments: weakening, storing -/
inductive Wk : List SV → List SV → Prop
  | nil : Wk [] []
  | eq {a : SV} {A B : List SV} : Wk A B → Wk (a :: A) (a :: B)
  | unk {a : SV} {A B : List SV} : Wk A B → Wk (a :: A) (.unk :: B)
theorem Wk.length {A B : List SV} (h : Wk A B) : A.length = B.length := by
  induction h with
  | nil => rfl
  | eq _ ih => simp [ih]
  | unk _ ih => simp [ih]
theorem Wk.get {A B : List SV} (h : Wk A B) {i : Nat} {v : SV} (e : B[i]? = some v) : v = .unk ∨ A[i]? = some v := by
  induction h generalizing i with
  | nil => simp at e
  | eq _ ih =>
    cases i with
    | zero => right; simpa using e
    | succ i => simpa using ih (by simpa using e)
  | unk _ ih =>
    cases i with
    | zero => left; simpa using e.symm
    | succ i => simpa using ih (by simpa using e)
theorem Wk.refl : ∀ A : List SV, Wk A A
  | [] => .nil
  | a :: A => .eq (Wk.refl A)
section
variable {K : PySem.W.Frag} {cs : Cs} {O : List Addr} {F H : Hp} {σ : L2.St} {Γ Γ' : List SV}
theorem Rep.weak (r : Rep K cs O F σ H Γ) (w : Wk Γ Γ') : Rep K cs O F σ H Γ' where
  same := r.same
  len := r.len.trans w.length
  dat := fun i d h => (w.get h).elim (fun z => nomatch z) fun z => r.dat i d z
  own := fun i d h => (w.get h).elim (fun z => nomatch z) fun z => r.own i d z
  dis := fun i j o o' v v' hij h1 h2 => (w.get h1).elim (fun z => nomatch z) fun z1 => (w.get h2).elim (fun z => nomatch z) fun z2 => r.dis i j o o' v v' hij z1 z2
  fr := r.fr
  trk := r.trk
theorem Rep.set {i : Nat} {v : V} {d : D} (r : Rep K cs O F σ H Γ) (h : DV K cs F v d) : Rep K cs O F (σ.set i (some v)) H (Γ.set i (.dat d)) where
  same := r.same
  len := by simp [r.len]
  dat := fun j d' hj => by
    by_cases e : j = i
    · subst e
      by_cases hl : j < Γ.length
      · rw [List.getElem?_set_self hl] at hj
        cases hj
        exact ⟨v, List.getElem?_set_self (by rw [r.len]; exact hl), h⟩
      · rw [List.getElem?_eq_none (by simpa using hl)] at hj; cases hj
    · rw [List.getElem?_set_ne (Ne.symm e)] at hj
      rw [List.getElem?_set_ne (Ne.symm e)]
      exact r.dat j d' hj
  own := fun j o hj => by
    by_cases e : j = i
    · subst e
      by_cases hl : j < Γ.length
      · rw [List.getElem?_set_self hl] at hj; cases hj
      · rw [List.getElem?_eq_none (by simpa using hl)] at hj; cases hj
    · rw [List.getElem?_set_ne (Ne.symm e)] at hj
      rw [List.getElem?_set_ne (Ne.symm e)]
      exact r.own j o hj
  dis := fun j k o o' w w' hjk h1 h2 h3 h4 => by
    have ne : ∀ (m : Nat) (o : OV), (Γ.set i (.dat d))[m]? = some (.own o) → m ≠ i ∧ Γ[m]? = some (.own o) := fun m o hm => by
      by_cases e : m = i
      · subst e
        by_cases hl : m < Γ.length
        · rw [List.getElem?_set_self hl] at hm; cases hm
        · rw [List.getElem?_eq_none (by simpa using hl)] at hm; cases hm
      · rw [List.getElem?_set_ne (Ne.symm e)] at hm; exact ⟨e, hm⟩
    obtain ⟨n1, g1⟩ := ne j o h1
    obtain ⟨n2, g2⟩ := ne k o' h2
    rw [List.getElem?_set_ne (Ne.symm n1)] at h3
    rw [List.getElem?_set_ne (Ne.symm n2)] at h4
    exact r.dis j k o o' w w' hjk g1 g2 h3 h4
  fr := r.fr
  trk := r.trk
end

/-! ### a frame: its kept slots, what it was handed as its own -/
structure Fc where
  J : List Nat
  σ0 : L2.St
structure RepF (K : PySem.W.Frag) (cs : Cs) (fc : Fc) (O : List Addr) (F : Hp) (σ : L2.St) (H : Hp) (Γ : List SV) : Prop where
  rep : Rep K cs O F σ H Γ
  slots : ∀ j ∈ fc.J, σ[j]? = fc.σ0[j]?
theorem RepF.to {K : PySem.W.Frag} {cs : Cs} {fc : Fc} {O : List Addr} {F F' H H' : Hp} {σ : L2.St} {Γ Γ' : List SV} (r : RepF K cs fc O F σ H Γ) (h : Rep K cs O F' σ H' Γ') : RepF K cs fc O F' σ H' Γ' := ⟨h, r.slots⟩
theorem RepF.weak {K : PySem.W.Frag} {cs : Cs} {fc : Fc} {O : List Addr} {F H : Hp} {σ : L2.St} {Γ Γ' : List SV} (r : RepF K cs fc O F σ H Γ) (w : Wk Γ Γ') : RepF K cs fc O F σ H Γ' := ⟨r.rep.weak w, r.slots⟩
theorem RepF.set {K : PySem.W.Frag} {cs : Cs} {fc : Fc} {O : List Addr} {F H : Hp} {σ : L2.St} {Γ : List SV} {i : Nat} {v : V} {d : D} (r : RepF K cs fc O F σ H Γ) (h : DV K cs F v d) (hi : i ∉ fc.J) : RepF K cs fc O F (σ.set i (some v)) H (Γ.set i (.dat d)) :=
  ⟨r.rep.set h, fun j hj => by
    have ne : i ≠ j := fun e => hi (by rw [e]; exact hj)
    rw [List.getElem?_set_ne ne]; exact r.slots j hj⟩

/-- the frame's handed-in resource: its slot, its content -/
abbrev Rho (S : Type) := Option (Nat × (S → OV))
def Has {S : Type} (ρ : Rho S) (Γ : List SV) (s : S) : Prop := match ρ with
  | none => True
  | some (j, o) => Γ[j]? = some (.own (o s))
def jOf {S : Type} (ρ : Rho S) : List Nat := match ρ with
  | none => []
  | some (j, _) => [j]
theorem Has.weak {S : Type} {ρ : Rho S} {Γ : List SV} {s : S} (h : Has ρ Γ s) : Has ρ Γ s := h

section
variable {S : Type}
structure BGoal {β : Type} (K : PySem.W.Frag) (cs : Cs) (W : WX) (ρ : Rho S) (fc : Fc) (G : List Addr → Hp → Hp → R S β → Prop) : Prop where
  mono : ∀ {O F H O' F' H' r}, G O F H r → Ext O F H O' F' H' → G O' F' H' r
  stuck : ∀ {O F H}, ¬ G O F H .stuck
  err : ∀ {O F H x s cls dd σ Γ}, G O F H (.err x s) → RepF K cs fc O F σ H Γ → Has ρ Γ s → XVr K cs F x cls dd → W cls dd σ H
theorem BGoal.goal {β : Type} {K : PySem.W.Frag} {cs : Cs} {W : WX} {ρ : Rho S} {fc : Fc} {G : List Addr → Hp → Hp → R S β → Prop} (g : BGoal K cs W ρ fc G) {O : List Addr} {σ : L2.St} {Γ : S → List SV} {F0 H0 : Hp} {Γ0 : List SV} (r0 : RepF K cs fc O F0 σ H0 Γ0) (h : ∀ s, Has ρ (Γ s) s) : Goal K cs W Γ O σ (G O) where
  mono := fun p e => g.mono p e
  stuck := g.stuck
  err := fun p r x => g.err p ⟨r, r0.slots⟩ (h _) x

/-- what follows a block: by return, by its end, by break, by continue -/
structure Kn (X : Cx) (cs : Cs) (ρ : Rho S) {β Tn Tl : Type} (Γn : Tn → S → List SV) (Γl : Tl → S → List SV) (fc : Fc) (G : List Addr → Hp → Hp → R S β → Prop) (O : List Addr) (F H : Hp) (D' : Ends)
    (kr : D → S → R S β) (kn : Tn → S → R S β) (kb kc : Tl → S → R S β) : Prop where
  rt : ∀ d s' O' F' σ' H' v Γ', Ext O F H O' F' H' → RepF X.K cs fc O' F' σ' H' Γ' → Has ρ Γ' s' → DV X.K cs F' v d → G O' F' H' (kr d s') → D'.rt v H'
  nx : ∀ t s' O' F' σ' H', Ext O F H O' F' H' → RepF X.K cs fc O' F' σ' H' (Γn t s') → G O' F' H' (kn t s') → D'.nx σ' H'
  bk : ∀ t s' O' F' σ' H', Ext O F H O' F' H' → RepF X.K cs fc O' F' σ' H' (Γl t s') → G O' F' H' (kb t s') → D'.bk σ' H'
  ct : ∀ t s' O' F' σ' H', Ext O F H O' F' H' → RepF X.K cs fc O' F' σ' H' (Γl t s') → G O' F' H' (kc t s') → D'.ct σ' H'
theorem Kn.later {X : Cx} {cs : Cs} {ρ : Rho S} {β Tn Tl : Type} {Γn : Tn → S → List SV} {Γl : Tl → S → List SV} {fc : Fc} {G : List Addr → Hp → Hp → R S β → Prop} {O O1 : List Addr} {F H F1 H1 : Hp} {D' : Ends}
    {kr : D → S → R S β} {kn : Tn → S → R S β} {kb kc : Tl → S → R S β} (k : Kn X cs ρ Γn Γl fc G O F H D' kr kn kb kc) (e : Ext O F H O1 F1 H1) : Kn X cs ρ Γn Γl fc G O1 F1 H1 D' kr kn kb kc :=
  ⟨fun d s' O' F' σ' H' v Γ' e' => k.rt d s' O' F' σ' H' v Γ' (e.trans e'), fun t s' O' F' σ' H' e' => k.nx t s' O' F' σ' H' (e.trans e'), fun t s' O' F' σ' H' e' => k.bk t s' O' F' σ' H' (e.trans e'), fun t s' O' F' σ' H' e' => k.ct t s' O' F' σ' H' (e.trans e')⟩

abbrev BM (S Tn Tl : Type) := (β : Type) → S → (D → S → R S β) → (Tn → S → R S β) → (Tl → S → R S β) → (Tl → S → R S β) → R S β
/-- a block's judgement -/
structure PB (X : Cx) (cs : Cs) (W : WX) (ρ : Rho S) (Γ : S → List SV) (sts : List Stmt) (ts : TS) {Tn Tl : Type} (Γn : Tn → S → List SV) (Γl : Tl → S → List SV) (m : BM S Tn Tl) : Prop where
  ps : PSs X sts ts
  de : ∀ {β : Type} {fc : Fc} {G : List Addr → Hp → Hp → R S β → Prop} (_ : BGoal X.K cs W ρ fc G) (_ : fc.J = jOf ρ) {s : S} {O : List Addr} {F H : Hp} {σ : L2.St} {D' : Ends} {kr : D → S → R S β} {kn : Tn → S → R S β} {kb kc : Tl → S → R S β},
    RepF X.K cs fc O F σ H (Γ s) → G O F H (m β s kr kn kb kc) → Kn X cs ρ Γn Γl fc G O F H D' kr kn kb kc → ts D' σ H

variable {X : Cx} {cs : Cs} {W : WX} {ρ : Rho S} {Γ : S → List SV} {Tn Tl : Type} {Γn : Tn → S → List SV} {Γl : Tl → S → List SV} {st : Stmt} {rest : List Stmt} {ts tr : TS} {e : Expr} {te : TE} {me : S → R S D} {pos : Pos}
/-- the end of a block -/
theorem pb_nil (t : Tn) (h : ∀ s, Wk (Γ s) (Γn t s)) : PB X cs W ρ Γ [] tNext Γn Γl (fun _ s _ kn _ _ => kn t s) := by
  refine ⟨pss_nil, ?_⟩
  intro β fc G g hj s O F H σ D' kr kn kb kc r q k
  exact k.nx t _ _ _ _ _ (Ext.refl _ _ _) (r.weak (h _)) q
/-- a statement that is the last one -/
theorem PB.one {m : BM S Tn Tl} (h : PB X cs W ρ Γ [st] (tSeq ts tNext) Γn Γl m) (hp : PS X st ts) : PB X cs W ρ Γ [st] ts Γn Γl m := by
  refine ⟨pss_one hp, ?_⟩
  intro β fc G g hj s O F H σ D' kr kn kb kc r q k
  exact h.de g hj r q k
theorem pb_break (t : Tl) (h : ∀ s, Wk (Γ s) (Γl t s)) : PB X cs W ρ Γ (.Break pos :: rest) (tSeq tBreak tNever) Γn Γl (fun _ s _ _ kb _ => kb t s) := by
  refine ⟨pss_cons ps_break pss_never, ?_⟩
  intro β fc G g hj s O F H σ D' kr kn kb kc r q k
  exact k.bk t _ _ _ _ _ (Ext.refl _ _ _) (r.weak (h _)) q
theorem pb_continue (t : Tl) (h : ∀ s, Wk (Γ s) (Γl t s)) : PB X cs W ρ Γ (.Continue pos :: rest) (tSeq tCont tNever) Γn Γl (fun _ s _ _ _ kc => kc t s) := by
  refine ⟨pss_cons ps_continue pss_never, ?_⟩
  intro β fc G g hj s O F H σ D' kr kn kb kc r q k
  exact k.ct t _ _ _ _ _ (Ext.refl _ _ _) (r.weak (h _)) q
/-- return e -/
theorem pb_ret (he : PD X cs W Γ e te me) (hρ : ∀ s, Has ρ (Γ s) s) : PB X cs W ρ Γ (.Return (some e) pos :: rest) (tSeq (tRet te) tNever) Γn Γl (fun _ s kr _ _ _ => (me s).bind fun d s1 => kr d s1) := by
  refine ⟨pss_cons (ps_ret he.pe) pss_never, ?_⟩
  intro β fc G g hj s O F H σ D' kr kn kb kc r q k
  refine he.run (g.goal r hρ) r.rep q fun d s1 F1 H1 v e1 r1 d1 q1 => ?_
  exact k.rt d s1 _ _ _ _ v _ e1 (r.to r1) (hρ s1) d1 q1
/-- x = e -/
theorem pb_set {i : Nat} {mr : D → BM S Tn Tl} (hp : PE X e te → PS X st (tAsg te (gName i))) (he : PD X cs W Γ e te me) (hρ : ∀ s, Has ρ (Γ s) s) (hi : i ∉ jOf ρ) (hr : ∀ d, PB X cs W ρ (fun s => (Γ s).set i (.dat d)) rest tr Γn Γl (mr d)) :
    PB X cs W ρ Γ (st :: rest) (tSeq (tAsg te (gName i)) tr) Γn Γl (fun β s kr kn kb kc => (me s).bind fun d s1 => mr d β s1 kr kn kb kc) := by
  refine ⟨pss_cons (hp he.pe) (hr .non).ps, ?_⟩
  intro β fc G g hj s O F H σ D' kr kn kb kc r q k
  refine he.run (g.goal r hρ) r.rep q fun d s1 F1 H1 v e1 r1 d1 q1 => ?_
  exact (hr d).de g hj ((r.to r1).set d1 (by rw [hj]; exact hi)) q1 (k.later e1)
/-- e, its value dropped -/
theorem pb_expr {mr : BM S Tn Tl} (hp : PE X e te → PS X st (tDrop te)) (he : PD X cs W Γ e te me) (hρ : ∀ s, Has ρ (Γ s) s) (hr : PB X cs W ρ Γ rest tr Γn Γl mr) :
    PB X cs W ρ Γ (st :: rest) (tSeq (tDrop te) tr) Γn Γl (fun β s kr kn kb kc => (me s).bind fun _ s1 => mr β s1 kr kn kb kc) := by
  refine ⟨pss_cons (hp he.pe) hr.ps, ?_⟩
  intro β fc G g hj s O F H σ D' kr kn kb kc r q k
  refine he.run (g.goal r hρ) r.rep q fun d s1 F1 H1 v e1 r1 d1 q1 => ?_
  exact hr.de g hj (r.to r1) q1 (k.later e1)
/-- pass -/
theorem pb_pass {mr : BM S Tn Tl} (hr : PB X cs W ρ Γ rest tr Γn Γl mr) : PB X cs W ρ Γ (.Pass pos :: rest) (tSeq tNext tr) Γn Γl mr := by
  refine ⟨pss_cons ps_pass hr.ps, ?_⟩
  intro β fc G g hj s O F H σ D' kr kn kb kc r q k
  exact hr.de g hj r q k
/-- if; the ways meet in Γj -/
theorem pb_if {c : Expr} {A B : List Stmt} {tc : TT} {tA tB : TS} {mc : S → R S Bool} {Tj : Type} {mA mB : BM S Tj Tl} {mr : Tj → BM S Tn Tl} (Γj : Tj → S → List SV) (hc : PTD X cs W Γ c tc mc) (hρ : ∀ s, Has ρ (Γ s) s)
    (hA : PB X cs W ρ Γ A tA Γj Γl mA) (hB : PB X cs W ρ Γ B tB Γj Γl mB) (t0 : Tj) (hr : ∀ t, PB X cs W ρ (Γj t) rest tr Γn Γl (mr t)) :
    PB X cs W ρ Γ (.If c A B pos :: rest) (tSeq (tIfS tc tA tB) tr) Γn Γl (fun β s kr kn kb kc => (mc s).bind fun b s1 => if b then mA β s1 kr (fun t s2 => mr t β s2 kr kn kb kc) kb kc else mB β s1 kr (fun t s2 => mr t β s2 kr kn kb kc) kb kc) := by
  refine ⟨pss_cons (ps_if hc.pt hA.ps hB.ps) (hr t0).ps, ?_⟩
  intro β fc G g hj s O F H σ D' kr kn kb kc r q k
  refine hc.run (g.goal r hρ) r.rep q fun b s1 F1 H1 e1 r1 q1 => ?_
  have k1 := k.later e1
  have kk : Kn X cs ρ Γj Γl fc G O F1 H1 { D' with nx := tr D' } kr (fun t s2 => mr t β s2 kr kn kb kc) kb kc :=
    ⟨k1.rt, fun t s' O' F' σ' H' e' r' q' => (hr t).de g hj r' q' (k1.later e'), k1.bk, k1.ct⟩
  cases b with
  | true => exact hA.de g hj (r.to r1) q1 kk
  | false => exact hB.de g hj (r.to r1) q1 kk
/-- if c: A, where A never comes to its end -/
theorem pb_ifx {c : Expr} {A : List Stmt} {tc : TT} {tA : TS} {mc : S → R S Bool} {mA : BM S Empty Tl} {mr : BM S Tn Tl} (hc : PTD X cs W Γ c tc mc) (hρ : ∀ s, Has ρ (Γ s) s)
    (hA : PB X cs W ρ Γ A tA (fun (t : Empty) (_ : S) => nomatch t) Γl mA) (hr : PB X cs W ρ Γ rest tr Γn Γl mr) :
    PB X cs W ρ Γ (.If c A [] pos :: rest) (tSeq (tIfS tc tA tNext) tr) Γn Γl (fun β s kr kn kb kc => (mc s).bind fun b s1 => if b then mA β s1 kr (fun t _ => nomatch t) kb kc else mr β s1 kr kn kb kc) := by
  refine ⟨pss_cons (ps_if hc.pt hA.ps pss_nil) hr.ps, ?_⟩
  intro β fc G g hj s O F H σ D' kr kn kb kc r q k
  refine hc.run (g.goal r hρ) r.rep q fun b s1 F1 H1 e1 r1 q1 => ?_
  have k1 := k.later e1
  cases b with
  | true =>
    refine hA.de g hj (r.to r1) q1 (D' := { D' with nx := tr D' }) ⟨k1.rt, (fun t => nomatch t), k1.bk, k1.ct⟩
  | false => exact hr.de g hj (r.to r1) q1 k1

/-! ### loops -/
def loopM {S T Rr : Type} : List D → T → S → (D → T → S → (T → S → Rr) → (T → S → Rr) → Rr) → (T → S → Rr) → Rr
  | [], t, s, _, k => k t s
  | x :: xs, t, s, body, k => body x t s (fun t' s' => loopM xs t' s' body k) k
/-- an iterator that yields the data ds -/
def WalkD (K : PySem.W.Frag) (cs : Cs) (F : Hp) (J : It) (ds : List D) : Prop := ∀ (F1 H1 : Hp), Same F F1 → Same F1 H1 → ∀ i,
  (∀ d, ds[i]? = some d → J.go i H1 ∧ ∀ x H2, J.yld i H1 x H2 → ∃ F2, Grow F1 H1 F2 H2 ∧ DV K cs F2 x d) ∧ (i = ds.length → J.stop i H1)
def PostI (K : PySem.W.Frag) (cs : Cs) (W : WX) (Γ : S → List SV) (O : List Addr) (σ : L2.St) (Q : It → Hp → Prop) (F H : Hp) : R S (List D) → Prop
  | .ok ds s' => ∀ F' H' J, Ext O F H O F' H' → Rep K cs O F' σ H' (Γ s') → WalkD K cs F' J ds → Q J H'
  | .err x s' => ∀ F' H' cls dd, Ext O F H O F' H' → Rep K cs O F' σ H' (Γ s') → XVr K cs F' x cls dd → W cls dd σ H'
  | .stuck => False
theorem PostI.goal {K : PySem.W.Frag} {O : List Addr} {σ : L2.St} {Q : It → Hp → Prop} : Goal K cs W Γ O σ (PostI K cs W Γ O σ Q) where
  mono := fun {F H F' H' r} p e => by
    cases r with
    | ok d s => exact fun F2 H2 J e2 => p F2 H2 J (e.trans e2)
    | err x s => exact fun F2 H2 c d e2 => p F2 H2 c d (e.trans e2)
    | stuck => exact p
  stuck := fun p => p
  err := fun p r x => p _ _ _ _ (Ext.refl _ _ _) r x
/-- what a for walks -/
structure PID (X : Cx) (cs : Cs) (W : WX) (Γ : S → List SV) (tg iter : Expr) (wi : TI) (m : S → R S (List D)) : Prop where
  pi : PI X tg iter wi
  de : ∀ s O F σ H Q, Rep X.K cs O F σ H (Γ s) → PostI X.K cs W Γ O σ Q F H (m s) → wi σ H Q
/-- a pattern that fits -/
def patR {S Y α : Type} (o : Option Y) (k : Y → R S α) : R S α := match o with
  | some y => k y
  | none => .stuck
@[simp] theorem patR_some {S Y α : Type} (y : Y) (k : Y → R S α) : patR (some y) k = k y := rfl
@[simp] theorem patR_none {S Y α : Type} (k : Y → R S α) : patR (none : Option Y) k = .stuck := rfl
/-- the target of a for: what it binds -/
structure PGD (X : Cx) (cs : Cs) (tg : Expr) (g : TG) {Y : Type} (pat : D → Option Y) (bind : Y → List SV → List SV) (is : List Nat) : Prop where
  pg : PG X tg g
  de : ∀ {d : D} {y : Y} {v : V} {fc : Fc} {O : List Addr} {F H : Hp} {σ : L2.St} {Γ : List SV} {Q : L2.St → Hp → Prop}, pat d = some y → RepF X.K cs fc O F σ H Γ → (∀ i ∈ is, i ∉ fc.J) → DV X.K cs F v d →
    (∀ σ', RepF X.K cs fc O F σ' H (bind y Γ) → σ'.length = σ.length → (∀ j, j ∉ is → σ'[j]? = σ[j]?) → Q σ' H) → g v σ H Q
  bs : ∀ (y : Y) (Γ : List SV) (j : Nat), j ∉ is → (bind y Γ)[j]? = Γ[j]?
  bl : ∀ (y : Y) (Γ : List SV), (bind y Γ).length = Γ.length
theorem set_off {α : Type} {l : List α} {i j : Nat} {x : α} (h : j ≠ i) : (l.set i x)[j]? = l[j]? := List.getElem?_set_ne (Ne.symm h)
theorem pgd_name {i : Nat} {tg : Expr} (h : PG X tg (gName i)) : PGD X cs tg (gName i) some (fun d Γ => Γ.set i (.dat d)) [i] := by
  refine ⟨h, ?_, fun y Γ j hj => set_off (by simpa using hj), fun y Γ => by simp⟩
  intro d y v fc O F H σ Γ Q hb r hi dv q
  cases hb
  exact q _ (r.set dv (hi i (by simp))) (by simp) fun j hj => by rw [List.getElem?_set_ne]; intro z; exact hj (by simp [z])
def pat2 : D → Option (D × D)
  | .tup [a, b] => some (a, b)
  | _ => none
theorem pgd_two {i j : Nat} {es : List Expr} {k : Nat} {pos : Pos} (hc : X.calm = true) (h : PGs X es (gCons (gName i) (gCons (gName j) gNil))) (hn : (assignEach es X.env).length = 2 := by rfl) (hst : (assignEach es X.env).findIdx? (·.1) = none := by rfl) :
    PGD X cs (.Tuple es k pos) (gTup X.K 2 (gCons (gName i) (gCons (gName j) gNil))) pat2 (fun y Γ => (Γ.set i (.dat y.1)).set j (.dat y.2)) [i, j] := by
  refine ⟨pg_tup hc h hn hst, ?_, fun y Γ m hm => by
    simp only [List.mem_cons, List.not_mem_nil, or_false, not_or] at hm
    rw [set_off hm.2, set_off hm.1], fun y Γ => by simp⟩
  intro d y v fc O F H σ Γ Q hb r hi dv q
  cases dv with
  | tup hs t =>
    cases t with
    | nil => cases hb
    | cons h1 t =>
      cases t with
      | nil => cases hb
      | cons h2 t =>
        cases t with
        | cons _ _ => cases hb
        | nil =>
          cases hb
          refine ⟨_, _, rfl, same_sqT r.rep.same hs, rfl, _, _, rfl, _, _, rfl, rfl, ?_⟩
          refine q _ ((r.set h1 (hi i (by simp))).set h2 (hi j (by simp))) (by simp) fun m hm => ?_
          simp only [List.mem_cons, List.not_mem_nil, or_false, not_or] at hm
          rw [List.getElem?_set_ne (Ne.symm hm.2), List.getElem?_set_ne (Ne.symm hm.1)]
  | _ => cases hb
def pat3 : D → Option (D × D × D)
  | .tup [a, b, c] => some (a, b, c)
  | _ => none
theorem pgd_three {i j l : Nat} {es : List Expr} {k : Nat} {pos : Pos} (hc : X.calm = true) (h : PGs X es (gCons (gName i) (gCons (gName j) (gCons (gName l) gNil)))) (hn : (assignEach es X.env).length = 3 := by rfl) (hst : (assignEach es X.env).findIdx? (·.1) = none := by rfl) :
    PGD X cs (.Tuple es k pos) (gTup X.K 3 (gCons (gName i) (gCons (gName j) (gCons (gName l) gNil)))) pat3 (fun y Γ => ((Γ.set i (.dat y.1)).set j (.dat y.2.1)).set l (.dat y.2.2)) [i, j, l] := by
  refine ⟨pg_tup hc h hn hst, ?_, fun y Γ m hm => by
    simp only [List.mem_cons, List.not_mem_nil, or_false, not_or] at hm
    rw [set_off hm.2.2, set_off hm.2.1, set_off hm.1], fun y Γ => by simp⟩
  intro d y v fc O F H σ Γ Q hb r hi dv q
  cases dv with
  | tup hs t =>
    cases t with
    | nil => cases hb
    | cons h1 t =>
      cases t with
      | nil => cases hb
      | cons h2 t =>
        cases t with
        | nil => cases hb
        | cons h3 t =>
          cases t with
          | cons _ _ => cases hb
          | nil =>
            cases hb
            refine ⟨_, _, rfl, same_sqT r.rep.same hs, rfl, _, _, rfl, _, _, rfl, _, _, rfl, rfl, ?_⟩
            refine q _ (((r.set h1 (hi i (by simp))).set h2 (hi j (by simp))).set h3 (hi l (by simp))) (by simp) fun m hm => ?_
            simp only [List.mem_cons, List.not_mem_nil, or_false, not_or] at hm
            rw [List.getElem?_set_ne (Ne.symm hm.2.2), List.getElem?_set_ne (Ne.symm hm.2.1), List.getElem?_set_ne (Ne.symm hm.1)]
  | _ => cases hb
theorem pb_for {tg iter : Expr} {body : List Stmt} {wi : TI} {gt : TG} {tb : TS} {mi : S → R S (List D)} {T Y : Type} {pat : D → Option Y} {bind : Y → List SV → List SV} {is : List Nat} {mb : Y → T → BM S T T} {mr : T → BM S Tn Tl}
    (ΓL : T → S → List SV) (t0 : T) (y0 : Y) (hp : PI X tg iter wi → PG X tg gt → PSs X body tb → PS X st (tFor wi gt tb)) (hi : PID X cs W Γ tg iter wi mi) (hg : PGD X cs tg gt pat bind is) (hρ : ∀ s, Has ρ (Γ s) s) (h0 : ∀ s, Wk (Γ s) (ΓL t0 s)) (hJ : ∀ i ∈ is, i ∉ jOf ρ)
    (hb : ∀ y t, PB X cs W ρ (fun s => bind y (ΓL t s)) body tb ΓL ΓL (mb y t)) (hr : ∀ t, PB X cs W ρ (ΓL t) rest tr Γn Γl (mr t)) :
    PB X cs W ρ Γ (st :: rest) (tSeq (tFor wi gt tb) tr) Γn Γl (fun β s kr kn kb kc => (mi s).bind fun ds s1 => loopM ds t0 s1 (fun x t s2 nx bk => patR (pat x) fun y => mb y t β s2 kr nx bk nx) (fun t s2 => mr t β s2 kr kn kb kc)) := by
  refine ⟨pss_cons (hp hi.pi hg.pg (hb y0 t0).ps) (hr t0).ps, ?_⟩
  intro β fc G g hj s O F H σ D' kr kn kb kc r q k
  show wi σ H _
  refine hi.de s O F σ H _ r.rep ?_
  cases hm : mi s with
  | stuck => rw [hm] at q; exact absurd q g.stuck
  | err x s' => rw [hm] at q; exact fun F' H' c d e1 r1 xv => g.err (g.mono q e1) (r.to r1) (by cases hm2 : ρ with
    | none => trivial
    | some p => rw [← hm2]; exact hρ s') xv
  | ok ds s1 =>
    rw [hm] at q
    intro F1 H1 J e1 r1 wd
    have q1 := g.mono q e1
    have k1 := k.later e1
    have rf1 := (r.to r1).weak (h0 s1)
    simp only [R.bind] at q1
    refine ⟨fun i m σ2 H2 => m = ds.length - i ∧ i ≤ ds.length ∧ ∃ t s2 O2 F2, Ext O F1 H1 O2 F2 H2 ∧ RepF X.K cs fc O2 F2 σ2 H2 (ΓL t s2) ∧ G O2 F2 H2 (loopM (ds.drop i) t s2 (fun x t s2 nx bk => patR (pat x) fun y => mb y t β s2 kr nx bk nx) (fun t s2 => mr t β s2 kr kn kb kc)),
      ⟨_, rfl, Nat.zero_le _, t0, s1, O, F1, Ext.refl _ _ _, rf1, q1⟩, ?_⟩
    rintro i m σ2 H2 ⟨rfl, hle, t, s2, O2, F2, e2, r2, q2⟩
    obtain ⟨w1, w2⟩ := wd F2 H2 e2.sF r2.rep.same i
    by_cases hlt : i < ds.length
    · have hd : ds[i]? = some ds[i] := List.getElem?_eq_getElem hlt
      obtain ⟨go, yl⟩ := w1 _ hd
      rw [List.drop_eq_getElem_cons hlt] at q2
      simp only [loopM] at q2
      refine .inr ⟨go, fun σ3 H3 => ∃ t s3 O3 F3, Ext O F1 H1 O3 F3 H3 ∧ RepF X.K cs fc O3 F3 σ3 H3 (ΓL t s3) ∧ G O3 F3 H3 (loopM (ds.drop (i + 1)) t s3 (fun x t s2 nx bk => patR (pat x) fun y => mb y t β s2 kr nx bk nx) (fun t s2 => mr t β s2 kr kn kb kc)),
        fun σ3 H3 h3 => ⟨ds.length - (i + 1), by omega, rfl, hlt, h3⟩, fun x H3 y => ?_⟩
      obtain ⟨F3, g3, dx⟩ := yl x H3 y
      have r3 := r2.to (g3.rep r2.rep)
      have q3 := g.mono q2 (g3.ext O2)
      cases hpat : pat ds[i] with
      | none => rw [hpat] at q3; exact absurd q3 g.stuck
      | some y =>
        rw [hpat] at q3
        refine hg.de hpat r3 (fun j hj' => by rw [hj]; exact hJ j hj') dx fun σ4 r4 _ _ => ?_
        have e3 := e2.trans (g3.ext O2)
        have k3 := k1.later e3
        refine (hb y t).de g hj r4 q3 ⟨k3.rt, fun t' s' O' F' σ' H' e' r' q' => ?_, fun t' s' O' F' σ' H' e' r' q' => ?_, fun t' s' O' F' σ' H' e' r' q' => ?_⟩
        · exact ⟨t', s', O', F', e3.trans e', r', q'⟩
        · exact (hr t').de g hj r' q' (k3.later e')
        · exact ⟨t', s', O', F', e3.trans e', r', q'⟩
    · have e : i = ds.length := by omega
      refine .inl ⟨w2 e, ?_⟩
      subst e
      rw [List.drop_length] at q2
      simp only [loopM] at q2
      exact (hr t).de g hj r2 q2 (k1.later e2)
end
end HD
set_option maxRecDepth 100000
set_option maxHeartbeats 4000000
namespace HD
open PySem PySem.Spec PyProof.Rows L2

/-! ### pure defs -/
def PostP (K : PySem.W.Frag) (cs : Cs) (F H : Hp) (Q : VK) (E : XK) : R Unit D → Prop
  | .ok d _ => ∀ F' H' v, Grow F H F' H' → DV K cs F' v d → Q v H'
  | .err x _ => ∀ F' H' cls dd, Grow F H F' H' → XVr K cs F' x cls dd → E cls dd H'
  | .stuck => False
/-- called with data, it hands back data; nothing that stood is changed -/
def spP (K : PySem.W.Frag) (cs : Cs) (n : Nat) (f : List D → R Unit D) : Sp := fun vs H Q E => vs.length = n ∧ ∃ F ds, Same F H ∧ DVs K cs F vs ds ∧ PostP K cs F H Q E (f ds)
theorem Ext.grow {O : List Addr} {F H F' H' : Hp} (e : Ext [] F H O F' H') (h : Same F' H') : Grow F H F' H' :=
  ⟨e.sF, fun b o q => e.sH b o q (by simp), h, fun b h1 h2 => e.nF b h1 h2 (by simp)⟩
theorem rep_pure {K : PySem.W.Frag} {cs : Cs} {F H : Hp} {vs : List V} {ds : List D} (e : Same F H) (h : DVs K cs F vs ds) (n : Nat) : Rep K cs [] F (vs.map some ++ List.replicate n none) H (ds.map .dat ++ List.replicate n .unk) where
  same := e
  len := by simp [h.length]
  dat := fun i d hi => by
    by_cases hl : i < ds.length
    · rw [List.getElem?_append_left (by simpa using hl), List.getElem?_map] at hi
      cases hd : ds[i]? with
      | none => rw [hd] at hi; cases hi
      | some d' =>
        rw [hd] at hi; cases hi
        obtain ⟨v, h1, h2⟩ := h.get hd
        refine ⟨v, ?_, h2⟩
        rw [List.getElem?_append_left (by rw [List.length_map, h.length]; exact hl), List.getElem?_map, h1]
        rfl
    · rw [List.getElem?_append_right (by simpa using hl), List.getElem?_replicate] at hi
      split at hi <;> cases hi
  own := fun i o hi => by
    by_cases hl : i < ds.length
    · rw [List.getElem?_append_left (by simpa using hl), List.getElem?_map] at hi
      cases hd : ds[i]? with
      | none => rw [hd] at hi; cases hi
      | some d' => rw [hd] at hi; cases hi
    · rw [List.getElem?_append_right (by simpa using hl), List.getElem?_replicate] at hi
      split at hi <;> cases hi
  dis := fun i j o o' v v' _ hi => by
    by_cases hl : i < ds.length
    · rw [List.getElem?_append_left (by simpa using hl), List.getElem?_map] at hi
      cases hd : ds[i]? with
      | none => rw [hd] at hi; cases hi
      | some d' => rw [hd] at hi; cases hi
    · rw [List.getElem?_append_right (by simpa using hl), List.getElem?_replicate] at hi
      split at hi <;> cases hi
  fr := fun b hb => nomatch hb
  trk := fun b hb => nomatch hb
section
variable {P : Program} {w : World} {K : PySem.W.Frag} {mg : Str → Option Value} {base : Heap} {cs : Cs}
/-- what an own def's body wants of exceptions -/
def wE (E : XK) : WX := fun cls d _ H => E cls d H
theorem fnP {x qual : Str} {st : Stmt} {f : Addr} {fd : FuncData} {N ps : List Str} {k : Nat} {g : List D → R Unit D} (Fn : Fun K x qual st f fd) (Sc : FnScope N ps (defScope st))
    (hb : ∀ (cdv : Value) (A : Around) (outer : List Env) (s : Shared) (H : Hp) (E : XK), Room k (A.deeper (envOfC qual (defScope st) s.heap.objs.size f cdv)) → ∀ ds : List D, ds.length = ps.length →
      ∃ (t : TS) (m : BM Unit Unit Empty), PB (cxOf (L2.CX P w) P w K mg base N qual (defScope st) f cdv A outer s H E) cs (wE E) none (fun _ => ds.map .dat ++ List.replicate (N.length - ps.length) .unk) (defBody st) t (fun _ _ => List.replicate N.length .unk) (fun t => nomatch t) m ∧
        g ds = m D () (fun d s => .ok d s) (fun _ s => .ok .non s) (fun t => nomatch t) (fun t => nomatch t)) : FnOk P w K mg base (L2.CX P w) (k + 1) f fd ps (spP K cs ps.length g) := by
  refine Fn.okX Sc (fun vs H Q E h => h.1) fun cdv A outer s H vs Q E hr h => ?_
  obtain ⟨hl, F, ds, sm, dv, q⟩ := h
  have hpl : ps.length ≤ N.length := by have := congrArg List.length Sc.pre; rw [List.length_take] at this; omega
  obtain ⟨t, m, pb, em⟩ := hb cdv A outer s H E hr ds (by rw [← dv.length]; exact hl)
  refine ⟨t, pb.ps, ?_⟩
  rw [em] at q
  have r0 : Rep K cs [] F (start N vs) H (ds.map .dat ++ List.replicate (N.length - ps.length) .unk) := by
    have := rep_pure (K := K) (cs := cs) sm dv (N.length - ps.length)
    unfold L2.start
    rw [hl]
    exact this
  refine pb.de (β := D) (fc := ⟨[], L2.start N vs⟩) (G := fun O F1 H1 r => Ext [] F H O F1 H1 ∧ PostP K cs F H Q E r) ⟨fun a e => ⟨a.1.trans e, a.2⟩, fun a => a.2, fun a r _ x => ?_⟩ rfl (s := ()) (O := []) (F := F) ⟨r0, (fun _ z => nomatch z)⟩ ⟨Ext.refl _ _ _, q⟩
    ⟨fun d s' O' F' σ' H' v Γ' e r _ dv' a => ?_, fun _ s' O' F' σ' H' e r a => ?_, (fun t => nomatch t), (fun t => nomatch t)⟩
  · exact a.2 _ _ _ _ (a.1.grow r.rep.same) x
  · exact a.2 _ _ _ (a.1.grow r.rep.same) dv'
  · exact a.2 _ _ _ (a.1.grow r.rep.same) .non
end

section
variable {S : Type} {X : Cx} {cs : Cs} {W : WX} {Γ : S → List SV} {e a b : Expr} {es : List Expr} {te ta tb : TE} {t : TA} {m ma mb : S → R S D} {pos apos p : Pos} {ms : (β : Type) → S → (List D → S → R S β) → R S β} {x : Str}
/-- from a goal to a callee's promise -/
theorem post_call {K : PySem.W.Frag} {O : List Addr} {σ : L2.St} {Q : VK} {F H : Hp} {s : S} {r : R Unit D} (q : Post rDV K cs W Γ O σ Q F H (r.lift s)) (rp : Rep K cs O F σ H (Γ s)) : PostP K cs F H Q (fun cls d H' => W cls d σ H') r := by
  cases r with
  | ok d u => exact fun F' H' v g dv => q F' H' v (g.ext O) (g.rep rp) dv
  | err x u => exact fun F' H' c d g xv => q F' H' c d (g.ext O) (g.rep rp) xv
  | stuck => exact q
theorem pd_call {k : Nat} {f : Addr} {fd : FuncData} {ps : List Str} {g : List D → R Unit D} (Fn : FnOk X.prog X.w X.K X.mg X.base (L2.CX X.prog X.w) k f fd ps (spP X.K cs ps.length g)) (hn : (e :: es).length = ps.length) (hr : Room k X.A) (hg : Gl X x) (hm : X.mg x = some (.ref f)) (hk : PySem.W.keepIn X.K (.ref f) = true)
    (hb : Binds X.K fd ps []) (tk : Takes X W) (ha : PAD X cs W Γ (e :: es) t ms) (hdb : (x == ("__debug__" : Str)) = false := by decide) (he : starEach (e :: es) X.env = (false, eval e X.env) :: starEach es X.env := by rfl) (hpl : (backTo pos (starEach es X.env)).any (·.1) = false := by rfl) :
    PD X cs W Γ (.Call (.Name x p) (e :: es) [] pos) (tCallS (spP X.K cs ps.length g) (fun σ cls d H => W cls d σ H) t) (fun s => ms D s fun ds s1 => (g ds).lift s1) := by
  refine ⟨pe_callS Fn hr hg hm hk hb (fun σ => passAt tk σ) ha.pa hdb he hpl, fun s O F σ H Q r q => ?_⟩
  refine ha.de Post.goal r q fun ds s1 F1 H1 vs e1 r1 d1 l1 q1 => ?_
  exact ⟨by rw [d1.length, l1]; exact hn, F1, ds, r1.same, d1, post_call q1 r1⟩

/-! ### methods -/
def tMethS (K : PySem.W.Frag) (m : Str) (f : Addr) (sp : Sp) (E : L2.St → XK) (ta : TE) (t : TA) : TE := fun σ H Q => ta σ H fun x H1 => ∃ a C dx fs, x = .ref a ∧ H1 a = some (.ins C dx fs) ∧ Cls K C ∧ Meth K C m f ∧ fs.lookup m = none ∧ t σ H1 fun vs H2 => sp (x :: vs) H2 Q (E σ)
section
variable {CX : CXT} {k : Nat} {f : Addr} {fd : FuncData} {ps : List Str} {sp : Sp} {E : L2.St → XK} {m : Str} {o : Expr}
theorem pe_methS1 {pl : Sem Bool} (he : PE X o ta) (hkp : PySem.W.keepIn X.K (.ref f) = true) (Fn : FnOk X.prog X.w X.K X.mg X.base CX k f fd ps sp) (hr : Room k X.A) (hb : Binds X.K fd ps []) (hx : ∀ σ, PassesAt CX X σ (E σ)) (ha : PA X (e :: es) t)
    (hst : starEach (e :: es) X.env = (false, eval e X.env) :: starEach es X.env := by rfl) (hpl : (backTo pos (starEach es X.env)).any (·.1) = false := by rfl)
    (ht : eval (.Call (.Attribute o m apos) (e :: es) [] pos) X.env = (do
      let ov ← eval o X.env
      standAt apos.atName
      let (f, first) ← holding [ov] (getMethod ov m pl)
      callWith pos f first (backTo pos (starEach (e :: es) X.env)) (backToKw pos (keywordEach [] X.env))) := by rfl) :
    PE X (.Call (.Attribute o m apos) (e :: es) [] pos) (tMethS X.K m f sp E ta t) := by
  refine ⟨fun pins s σ H Q I h => ?_⟩
  refine PySem.W.methodCall_KW (pl := pl) (thn (he.run pins s σ H _ I h) fun u s1 ⟨x, H1, I1, rx, a, C, dx, fs, ex, ea, c, hm, l, q⟩ => ?_) ht
  subst ex
  obtain rfl : u = Value.ref a := rx
  refine getmeth_ok I1 ea c hm l ?_
  refine PySem.W.callWith_K (first := [.ref a]) (h₀ := X.base) I.ok.mod.kin hkp (thn (ha.run pos pins s1 σ H1 _ I1 q) fun us s2 ⟨vs, H2, I2, r, q2⟩ => ⟨I2.kIn, ?_⟩) hst hpl
  exact run_fnS (us := .ref a :: us) (vs := .ref a :: vs) Fn hr hb (hx σ) I2 (.cons rfl r) q2
theorem pe_methS0 {pl : Sem Bool} (he : PE X o ta) (hkp : PySem.W.keepIn X.K (.ref f) = true) (Fn : FnOk X.prog X.w X.K X.mg X.base CX k f fd ps sp) (hr : Room k X.A) (hb : Binds X.K fd ps []) (hx : ∀ σ, PassesAt CX X σ (E σ))
    (ht : eval (.Call (.Attribute o m apos) [] [] pos) X.env = (do
      let ov ← eval o X.env
      standAt apos.atName
      let (f, first) ← holding [ov] (getMethod ov m pl)
      callWith pos f first (backTo pos (starEach [] X.env)) (backToKw pos (keywordEach [] X.env))) := by rfl) :
    PE X (.Call (.Attribute o m apos) [] [] pos) (tMethS X.K m f sp E ta tNil) := by
  refine ⟨fun pins s σ H Q I h => ?_⟩
  refine PySem.W.methodCall_KW (pl := pl) (thn (he.run pins s σ H _ I h) fun u s1 ⟨x, H1, I1, rx, a, C, dx, fs, ex, ea, c, hm, l, q⟩ => ?_) ht
  subst ex
  obtain rfl : u = Value.ref a := rx
  refine getmeth_ok I1 ea c hm l ?_
  exact PySem.W.callWith_K0 (first := [.ref a]) I1.kIn hkp (run_fnS (us := [.ref a]) (vs := [.ref a]) Fn hr hb (hx σ) I1 (.cons rfl .nil) q)
end
/-- which classes have the method m at f -/
structure MtOk (K : PySem.W.Frag) (cs : Cs) (m : Str) (f : Addr) (has : Nat → Bool) : Prop where
  ok : ∀ c, has c = true → Cls K (cs c).1 ∧ Meth K (cs c).1 m f ∧ m ∉ (cs c).2
theorem zip_none {N : List Str} {vs : List V} {f : Str} (h : f ∉ N) : (N.zip vs).lookup f = none := by
  induction N generalizing vs with
  | nil => rfl
  | cons x N ih =>
    cases vs with
    | nil => rfl
    | cons y vs =>
      have h1 : f ≠ x := fun z => h (by simp [z])
      have h2 : f ∉ N := fun z => h (by simp [z])
      have : (f == x) = false := by simpa using h1
      simp only [List.zip_cons_cons, List.lookup_cons, this]
      exact ih h2
/-- an object of one of these classes -/
def onObj {S : Type} (has : Nat → Bool) (o : D) (r : R S D) : R S D := match o with
  | .obj c _ => if has c then r else .stuck
  | _ => .stuck
theorem obj_meth {K : PySem.W.Frag} {F H : Hp} {v : V} {o : D} {has : Nat → Bool} {m : Str} {f : Addr} {r : R S D} (mt : MtOk K cs m f has) (hs : Same F H) (h : DV K cs F v o) (q : onObj has o r ≠ .stuck) : onObj has o r = r ∧ ∃ a C dx fs, v = .ref a ∧ H a = some (.ins C dx fs) ∧ Cls K C ∧ Meth K C m f ∧ fs.lookup m = none := by
  cases h with
  | @obj a dx c vs fs ha hl t =>
    simp only [onObj] at q ⊢
    cases hc : has c with
    | false => rw [hc] at q; exact absurd rfl q
    | true =>
      obtain ⟨h1, h2, h3⟩ := mt.ok c hc
      exact ⟨rfl, _, _, _, _, rfl, hs _ _ ha, h1, h2, zip_none h3⟩
  | _ => exact absurd rfl q
theorem post_stuck {K : PySem.W.Frag} {O : List Addr} {σ : L2.St} {Q : VK} {F H : Hp} {r : R S D} (q : Post rDV K cs W Γ O σ Q F H r) : r ≠ .stuck := fun z => by rw [z] at q; exact q
/-- o.m() -/
theorem pd_meth0 {k : Nat} {f : Addr} {fd : FuncData} {ps : List Str} {g : List D → R Unit D} {mn : Str} {o : Expr} {mo : S → R S D} {has : Nat → Bool} {pl : Sem Bool} (mt : MtOk X.K cs mn f has) (hk : PySem.W.keepIn X.K (.ref f) = true) (Fn : FnOk X.prog X.w X.K X.mg X.base (L2.CX X.prog X.w) k f fd ps (spP X.K cs ps.length g)) (hn : 1 = ps.length) (hr : Room k X.A)
    (hb : Binds X.K fd ps []) (tk : Takes X W) (ho : PD X cs W Γ o ta mo)
    (ht : eval (.Call (.Attribute o mn apos) [] [] pos) X.env = (do
      let ov ← eval o X.env
      standAt apos.atName
      let (f, first) ← holding [ov] (getMethod ov mn pl)
      callWith pos f first (backTo pos (starEach [] X.env)) (backToKw pos (keywordEach [] X.env))) := by rfl) :
    PD X cs W Γ (.Call (.Attribute o mn apos) [] [] pos) (tMethS X.K mn f (spP X.K cs ps.length g) (fun σ cls d H => W cls d σ H) ta tNil) (fun s => (mo s).bind fun d s1 => onObj has d ((g [d]).lift s1)) := by
  refine ⟨pe_methS0 ho.pe hk Fn hr hb (fun σ => passAt tk σ) ht, fun s O F σ H Q r q => ?_⟩
  refine ho.run Post.goal r q fun d s1 F1 H1 v e1 r1 d1 q1 => ?_
  obtain ⟨eq, a, C, dx, fs, h1, h2, h3, h4, h5⟩ := obj_meth mt r1.same d1 (post_stuck q1)
  rw [eq] at q1
  refine ⟨a, C, dx, fs, h1, h2, h3, h4, h5, ?_⟩
  exact ⟨by simpa using hn, F1, [d], r1.same, .cons d1 .nil, post_call q1 r1⟩
/-- o.m(e, ..) -/
theorem pd_meth {k : Nat} {f : Addr} {fd : FuncData} {ps : List Str} {g : List D → R Unit D} {mn : Str} {o : Expr} {mo : S → R S D} {has : Nat → Bool} {pl : Sem Bool} (mt : MtOk X.K cs mn f has) (hk : PySem.W.keepIn X.K (.ref f) = true) (Fn : FnOk X.prog X.w X.K X.mg X.base (L2.CX X.prog X.w) k f fd ps (spP X.K cs ps.length g)) (hn : (e :: es).length + 1 = ps.length) (hr : Room k X.A)
    (hb : Binds X.K fd ps []) (tk : Takes X W) (ho : PD X cs W Γ o ta mo) (ha : PAD X cs W Γ (e :: es) t ms)
    (hst : starEach (e :: es) X.env = (false, eval e X.env) :: starEach es X.env := by rfl) (hpl : (backTo pos (starEach es X.env)).any (·.1) = false := by rfl)
    (ht : eval (.Call (.Attribute o mn apos) (e :: es) [] pos) X.env = (do
      let ov ← eval o X.env
      standAt apos.atName
      let (f, first) ← holding [ov] (getMethod ov mn pl)
      callWith pos f first (backTo pos (starEach (e :: es) X.env)) (backToKw pos (keywordEach [] X.env))) := by rfl) :
    PD X cs W Γ (.Call (.Attribute o mn apos) (e :: es) [] pos) (tMethS X.K mn f (spP X.K cs ps.length g) (fun σ cls d H => W cls d σ H) ta t) (fun s => (mo s).bind fun d s1 => onObj has d (ms D s1 fun ds s2 => (g (d :: ds)).lift s2)) := by
  refine ⟨pe_methS1 ho.pe hk Fn hr hb (fun σ => passAt tk σ) ha.pa hst hpl ht, fun s O F σ H Q r q => ?_⟩
  refine ho.run Post.goal r q fun d s1 F1 H1 v e1 r1 d1 q1 => ?_
  obtain ⟨eq, a, C, dx, fs, h1, h2, h3, h4, h5⟩ := obj_meth mt r1.same d1 (post_stuck q1)
  rw [eq] at q1
  refine ⟨a, C, dx, fs, h1, h2, h3, h4, h5, ?_⟩
  refine ha.de Post.goal r1 q1 fun ds s2 F2 H2 vs2 e2 r2 d2 l2 q2 => ?_
  exact ⟨by rw [List.length_cons, d2.length, l2]; exact hn, F2, _ :: ds, r2.same, .cons (DV.mono e2.sF d1) d2, post_call q2 r2⟩
end
end HD
set_option maxRecDepth 100000
set_option maxHeartbeats 4000000
namespace HD
open PySem PySem.Spec PyProof.Rows L2

/-! ### a list, a tuple, a text that is walked -/
def iAny (K : PySem.W.Frag) (te : TE) : TI := fun σ H R => te σ H fun v H1 => (∃ a xs, v = .ref a ∧ SqL K H1 a xs ∧ R (Itl K a) H1) ∨ (∃ a xs, v = .ref a ∧ SqT K H1 a xs ∧ R (Itt K a) H1) ∨ ∃ x, v = .str x ∧ R (Its x) H1
theorem pi_any {X : Cx} {tg e : Expr} {te : TE} (he : PE X e te) : PI X tg e (iAny X.K te) := by
  refine ⟨fun pins s σ H R I h => ?_⟩
  refine thn (he.run pins s σ H _ I h) fun v s1 ⟨y, H1, I1, r1, q1⟩ => ?_
  rcases q1 with ⟨a, xs, rfl, hq, q⟩ | ⟨a, xs, rfl, hq, q⟩ | ⟨x, rfl, q⟩
  · cases r1
    obtain ⟨its, rv, p, hz⟩ := I1.list hq
    refine wpAny_pyIter_list p.isList ?_
    refine ⟨s1.heap.objs.size, [s1.heap.objs.size], _, _, H1, rfl, I1.kept (t' := s1.toks) fun b o e => Heap.get?_push_of_some _ e, turn_list a _, ⟨_, Heap.get?_push_size _ rfl, rfl, rfl⟩, fun b hb => ?_, q⟩
    have e : b = s1.heap.objs.size := by simpa using hb
    subst e
    exact I1.fpOk (Nat.le_refl _) (I1.hok.fresh (Nat.le_refl _))
  · cases r1
    obtain ⟨its, rv, p, hz⟩ := I1.tuple hq
    refine wpAny_pyIter_tuple (show s1.heap.IsTuple a its.toArray from p) ?_
    refine ⟨s1.heap.objs.size, [s1.heap.objs.size], _, _, H1, rfl, I1.kept (t' := s1.toks) fun b o e => Heap.get?_push_of_some _ e, turn_tuple a _, ⟨_, Heap.get?_push_size _ rfl, rfl, rfl⟩, fun b hb => ?_, q⟩
    have e : b = s1.heap.objs.size := by simpa using hb
    subst e
    exact I1.fpOk (Nat.le_refl _) (I1.hok.fresh (Nat.le_refl _))
  · obtain ⟨t, rfl⟩ := r1
    cases ha : x.cps.all (· < 128)
    · exact wpAny_pyIter_wide ha (pi_one (tk := s1.toks) I1 _ (turn_str _ x t "str_iterator" (.inr rfl)) ⟨_, Heap.get?_push_size _ rfl, rfl, rfl⟩ q)
    · exact wpAny_pyIter_ascii ha (pi_one (tk := s1.toks) I1 _ (turn_str _ x t "str_ascii_iterator" (.inl rfl)) ⟨_, Heap.get?_push_size _ rfl, rfl, rfl⟩ q)
/-- what is walked: the items, the signs -/
def itemsF : D → Option (List D)
  | .lst ds => some ds
  | .tup ds => some ds
  | .str x => some (x.cps.toList.map fun c => .str ⟨#[c]⟩)
  | _ => none
section
variable {S : Type} {X : Cx} {cs : Cs} {W : WX} {Γ : S → List SV} {e a b tg : Expr} {es : List Expr} {te ta tb : TE} {t : TA} {m ma mb : S → R S D} {pos apos p : Pos} {x : Str}
theorem walk_lst {K : PySem.W.Frag} {F : Hp} {a : Addr} {vs : List V} {ds : List D} (h : F a = some (.lst vs)) (t : DVs K cs F vs ds) : WalkD K cs F (Itl K a) ds := by
  intro F1 H1 e1 e2 i
  have hl : SqL K H1 a vs := SqL.of (e2 _ _ (e1 _ _ h))
  refine ⟨fun d hd => ?_, fun hi => ⟨vs, hl, by rw [t.length, hi]; exact Nat.le_refl _⟩⟩
  obtain ⟨v, h1, h2⟩ := t.get hd
  exact ⟨⟨vs, v, hl, h1⟩, fun x H2 y => ⟨F1, by rw [y.1]; exact Grow.refl e2, by
    have := y.2 vs hl
    rw [h1] at this; cases this
    exact h2.mono e1⟩⟩
theorem walk_tup {K : PySem.W.Frag} {F : Hp} {a : Addr} {vs : List V} {ds : List D} (h : SqT K F a vs) (t : DVs K cs F vs ds) : WalkD K cs F (Itt K a) ds := by
  intro F1 H1 e1 e2 i
  have hl : SqT K H1 a vs := same_sqT e2 (same_sqT e1 h)
  refine ⟨fun d hd => ?_, fun hi => ⟨vs, hl, by rw [t.length, hi]; exact Nat.le_refl _⟩⟩
  obtain ⟨v, h1, h2⟩ := t.get hd
  exact ⟨⟨vs, v, hl, h1⟩, fun x H2 y => ⟨F1, by rw [y.1]; exact Grow.refl e2, by
    have := y.2 vs hl
    rw [h1] at this; cases this
    exact h2.mono e1⟩⟩
theorem walk_str {K : PySem.W.Frag} {F : Hp} {z : Str} : WalkD K cs F (Its z) (z.cps.toList.map fun c => D.str ⟨#[c]⟩) := by
  intro F1 H1 e1 e2 i
  refine ⟨fun d hd => ?_, fun hi => ?_⟩
  · rw [List.getElem?_map] at hd
    cases hc : z.cps.toList[i]? with
    | none => rw [hc] at hd; cases hd
    | some c =>
      rw [hc] at hd; cases hd
      have hc' : z.cps[i]? = some c := by simpa using hc
      refine ⟨(Array.getElem?_eq_some_iff.mp hc').1, fun x H2 y => ⟨F1, by rw [y.1]; exact Grow.refl e2, ?_⟩⟩
      obtain ⟨_, c', h1, rfl⟩ := y
      rw [hc'] at h1; cases h1
      exact .str _
  · show z.cps.size ≤ i
    simp at hi
    omega
theorem pid_any (ha : PD X cs W Γ a ta ma) : PID X cs W Γ tg a (iAny X.K ta) (fun s => (ma s).bind fun d s1 => opt (itemsF d) s1) := by
  refine ⟨pi_any ha.pe, fun s O F σ H Q r q => ?_⟩
  refine ha.run PostI.goal r q fun d s1 F1 H1 v e1 r1 d1 q1 => ?_
  cases d1 with
  | lst h t => exact .inl ⟨_, _, rfl, SqL.of (r1.same _ _ h), q1 _ _ _ (Ext.refl _ _ _) r1 (walk_lst h t)⟩
  | tup h t => exact .inr (.inl ⟨_, _, rfl, same_sqT r1.same h, q1 _ _ _ (Ext.refl _ _ _) r1 (walk_tup h t)⟩)
  | str z => exact .inr (.inr ⟨_, rfl, q1 _ _ _ (Ext.refl _ _ _) r1 walk_str⟩)
  | _ => exact q1.elim
/-! range -/
def rangeD (lo : Int) (n : Nat) : List D := (List.range n).map fun i => .int (lo + (i : Nat))
theorem walk_rng {K : PySem.W.Frag} {F : Hp} {lo : Int} {n : Nat} : WalkD K cs F (Itr lo n) (rangeD lo n) := by
  intro F1 H1 e1 e2 i
  refine ⟨fun d hd => ?_, fun hi => ?_⟩
  · unfold rangeD at hd
    rw [List.getElem?_map] at hd
    by_cases hl : i < n
    · rw [List.getElem?_range hl] at hd
      cases hd
      exact ⟨hl, fun x H2 y => ⟨F1, by rw [y.1]; exact Grow.refl e2, by rw [y.2]; exact .int _⟩⟩
    · rw [List.getElem?_eq_none (by simpa using hl)] at hd; cases hd
  · show n ≤ i
    simp [rangeD] at hi
    omega
variable {ms : (β : Type) → S → (List D → S → R S β) → R S β}
def rangeF : List D → Option (List D)
  | [.int j] => if -1000000 ≤ j ∧ j ≤ 1000000 then some (rangeD 0 j.toNat) else none
  | [.int i, .int j] => if (-1000000 ≤ i ∧ i ≤ 1000000) ∧ -1000000 ≤ j ∧ j ≤ 1000000 then some (rangeD i (j - i).toNat) else none
  | _ => none
theorem pid_range1 (hg : Gl X "range") (hm : X.mg "range" = none) (ha : PAD X cs W Γ [a] t ms) (hs : starEach [a] X.env = [(false, eval a X.env)] := by rfl) :
    PID X cs W Γ tg (.Call (.Name "range" p) [a] [] pos) (iRng1 t) (fun s => ms (List D) s fun ds s1 => opt (rangeF ds) s1) := by
  refine ⟨pi_range1 hg hm ha.pa hs, fun s O F σ H Q r q => ?_⟩
  refine ha.de PostI.goal r q fun ds s1 F1 H1 vs e1 r1 d1 l1 q1 => ?_
  match ds, l1, d1, q1 with
  | [d], _, d1, q1 =>
    cases d <;> simp only [rangeF] at q1 <;> try (exact q1.elim)
    split at q1
    · rename_i hc
      cases d1 with
      | cons hv tl =>
        cases hv; cases tl
        exact ⟨_, rfl, by omega, by omega, q1 _ _ _ (Ext.refl _ _ _) r1 walk_rng⟩
    · exact q1.elim
theorem pid_range2 (hg : Gl X "range") (hm : X.mg "range" = none) (ha : PAD X cs W Γ [a, b] t ms) (hs : starEach [a, b] X.env = [(false, eval a X.env), (false, eval b X.env)] := by rfl) (hs2 : starEach [b] X.env = [(false, eval b X.env)] := by rfl) :
    PID X cs W Γ tg (.Call (.Name "range" p) [a, b] [] pos) (iRng2 t) (fun s => ms (List D) s fun ds s1 => opt (rangeF ds) s1) := by
  refine ⟨pi_range2 hg hm ha.pa hs hs2, fun s O F σ H Q r q => ?_⟩
  refine ha.de PostI.goal r q fun ds s1 F1 H1 vs e1 r1 d1 l1 q1 => ?_
  match ds, l1, d1, q1 with
  | [d, d'], _, d1, q1 =>
    cases d <;> cases d' <;> simp only [rangeF] at q1 <;> try (exact q1.elim)
    split at q1
    · rename_i hc
      cases d1 with
      | cons hv tl =>
        cases tl with
        | cons hw tl =>
          cases hv; cases hw; cases tl
          exact ⟨_, _, rfl, ⟨by omega, by omega, by omega, by omega⟩, q1 _ _ _ (Ext.refl _ _ _) r1 walk_rng⟩
    · exact q1.elim

/-! enumerate of a list -/
def enumD (n : Nat) : List D → List D
  | [] => []
  | d :: ds => .tup [.int (n : Nat), d] :: enumD (n + 1) ds
theorem enumD_get : ∀ (ds : List D) (n i : Nat), (enumD n ds)[i]? = (ds[i]?).map fun d => D.tup [.int ((n + i : Nat) : Int), d]
  | [], n, i => by simp [enumD]
  | d :: ds, n, 0 => by simp [enumD]
  | d :: ds, n, i + 1 => by
    simp only [enumD, List.getElem?_cons_succ]
    rw [enumD_get ds (n + 1) i]
    have : n + 1 + i = n + (i + 1) := by omega
    rw [this]
theorem enumD_length : ∀ (ds : List D) (n : Nat), (enumD n ds).length = ds.length
  | [], _ => rfl
  | d :: ds, n => by simp [enumD, enumD_length ds]
theorem walk_enum {K : PySem.W.Frag} {F : Hp} {a : Addr} {vs : List V} {ds : List D} (h : F a = some (.lst vs)) (t : DVs K cs F vs ds) : WalkD K cs F (Ite K a) (enumD 0 ds) := by
  intro F1 H1 e1 e2 i
  have hl : SqL K H1 a vs := SqL.of (e2 _ _ (e1 _ _ h))
  refine ⟨fun d hd => ?_, fun hi => ⟨vs, hl, by rw [enumD_length] at hi; rw [t.length, hi]; exact Nat.le_refl _⟩⟩
  rw [enumD_get] at hd
  cases hdi : ds[i]? with
  | none => rw [hdi] at hd; cases hd
  | some d' =>
    rw [hdi] at hd; cases hd
    obtain ⟨v, h1, h2⟩ := t.get hdi
    refine ⟨⟨vs, v, hl, h1⟩, fun x H2 y => ?_⟩
    obtain ⟨T, z, rfl, hT, rfl, hz⟩ := y
    have := hz vs hl
    rw [h1] at this; cases this
    refine ⟨upd F1 T (.tup [.int i, v]), Grow.new e2 hT, ?_⟩
    have g := Grow.new (o := .tup [.int i, v]) e2 hT
    rw [Nat.zero_add]
    exact .tup (SqT.of upd_same) (.cons (.int _) (.cons (h2.mono (e1.trans g.sF)) .nil))
def listOnly : D → Option (List D)
  | .lst ds => some ds
  | _ => none
theorem pid_enum {elts : List Expr} {kk : Nat} {tpos : Pos} (hg : Gl X "enumerate") (hm : X.mg "enumerate" = none) (ha : PD X cs W Γ a ta ma) (hs : starEach [a] X.env = [(false, eval a X.env)] := by rfl) :
    PID X cs W Γ (.Tuple elts kk tpos) (.Call (.Name "enumerate" p) [a] [] pos) (iEnum X.K (tCons ta tNil)) (fun s => (ma s).bind fun d s1 => opt ((listOnly d).map (enumD 0)) s1) := by
  refine ⟨pi_enum hg hm (pa_cons ha.pe pa_nil (by rw [hs]; rfl)) hs, fun s O F σ H Q r q => ?_⟩
  refine ha.run PostI.goal r q fun d s1 F1 H1 v e1 r1 d1 q1 => ?_
  cases d1 with
  | lst h t => exact ⟨_, _, rfl, SqL.of (r1.same _ _ h), q1 _ _ _ (Ext.refl _ _ _) r1 (walk_enum h t)⟩
  | _ => exact q1.elim
end
end HD
set_option maxRecDepth 100000
set_option maxHeartbeats 4000000
namespace HD
open PySem PySem.Spec PyProof.Rows L2

/-! ### list comprehensions -/
def noErr {S α : Type} : R S α → R S α
  | .ok a s => .ok a s
  | _ => .stuck
@[simp] theorem noErr_ok {S α : Type} (a : α) (s : S) : noErr (.ok a s) = .ok a s := rfl
def lcA {S : Type} : List D → List D → S → (D → S → R S (Option D)) → R S (List D)
  | [], acc, s, _ => .ok acc s
  | x :: xs, acc, s, f => (noErr (f x s)).bind fun o s1 => match o with
    | some d => if acc.length < 1000000 then lcA xs (acc ++ [d]) s1 f else .stuck
    | none => lcA xs acc s1 f
def wG (Γ : List SV) : List Nat → List SV
  | [] => Γ
  | v :: vs => (wG Γ vs).set v .unk
theorem wG_length (Γ : List SV) : ∀ vs, (wG Γ vs).length = Γ.length
  | [] => rfl
  | v :: vs => by unfold wG; rw [List.length_set, wG_length Γ vs]
theorem wG_in (Γ : List SV) {i : Nat} {v : SV} : ∀ {vs : List Nat}, (wG Γ vs)[i]? = some v → v = .unk ∨ (Γ[i]? = some v ∧ i ∉ vs)
  | [], h => .inr ⟨h, by simp⟩
  | u :: vs, h => by
    unfold wG at h
    by_cases hi : u = i
    · subst hi
      by_cases hl : u < (wG Γ vs).length
      · rw [List.getElem?_set_self hl] at h; cases h; exact .inl rfl
      · rw [List.getElem?_eq_none (by simpa using hl)] at h; cases h
    · rw [List.getElem?_set_ne hi] at h
      rcases wG_in Γ h with h | ⟨h1, h2⟩
      · exact .inl h
      · exact .inr ⟨h1, by simp only [List.mem_cons, not_or]; exact ⟨fun e => hi e.symm, h2⟩⟩
theorem wipe_keep {σ : L2.St} {i : Nat} : ∀ {vs : List Nat}, i ∉ vs → (wipe σ vs)[i]? = σ[i]?
  | [], _ => rfl
  | u :: vs, h => by
    simp only [List.mem_cons, not_or] at h
    unfold wipe
    rw [List.getElem?_set_ne (Ne.symm h.1)]
    exact wipe_keep h.2
theorem wipe_mem {σ : L2.St} {i : Nat} : ∀ {vs : List Nat}, i ∈ vs → (wipe σ vs)[i]? = if i < σ.length then some none else none
  | [], h => nomatch h
  | u :: vs, h => by
    unfold wipe
    by_cases e : u = i
    · subst e
      by_cases hl : u < σ.length
      · rw [if_pos hl, List.getElem?_set_self (by rw [wipe_length]; exact hl)]
      · rw [if_neg hl, List.getElem?_eq_none (by rw [List.length_set, wipe_length]; omega)]
    · rw [List.getElem?_set_ne e]
      rcases List.mem_cons.mp h with z | z
      · exact absurd z.symm e
      · exact wipe_mem z
theorem wipe_ext {σ τ : L2.St} {vs : List Nat} (hl : σ.length = τ.length) (h : ∀ j, j ∉ vs → σ[j]? = τ[j]?) : wipe σ vs = wipe τ vs := by
  apply List.ext_getElem?
  intro i
  by_cases hi : i ∈ vs
  · rw [wipe_mem hi, wipe_mem hi, hl]
  · rw [wipe_keep hi, wipe_keep hi]; exact h i hi
theorem Rep.wipe {K : PySem.W.Frag} {cs : Cs} {O : List Addr} {F H : Hp} {σ : L2.St} {Γ : List SV} (r : Rep K cs O F σ H Γ) (vs : List Nat) : Rep K cs O F (wipe σ vs) H (wG Γ vs) where
  same := r.same
  len := by rw [wipe_length, wG_length, r.len]
  dat := fun i d h => by
    rcases wG_in Γ h with z | ⟨z, n⟩
    · cases z
    · obtain ⟨v, h1, h2⟩ := r.dat i d z; exact ⟨v, by rw [wipe_keep n]; exact h1, h2⟩
  own := fun i d h => by
    rcases wG_in Γ h with z | ⟨z, n⟩
    · cases z
    · obtain ⟨v, h1, h2⟩ := r.own i d z; exact ⟨v, by rw [wipe_keep n]; exact h1, h2⟩
  dis := fun i j o o' v v' hij h1 h2 h3 h4 => by
    rcases wG_in Γ h1 with z | ⟨z, n⟩
    · cases z
    · rcases wG_in Γ h2 with z' | ⟨z', n'⟩
      · cases z'
      · rw [wipe_keep n] at h3
        rw [wipe_keep n'] at h4
        exact r.dis i j o o' v v' hij z z' h3 h4
  fr := r.fr
  trk := r.trk
theorem Ext.freeze {O : List Addr} {F H F' H' : Hp} {p : Addr} {o : HO} (e : Ext O F H O F' H') (hp : H p = none) (hF : F' p = none) : Ext O F H O (upd F' p o) H' := by
  have fp0 : ∀ b, H b ≠ none → b ≠ p := fun b h z => h (by rw [z]; exact hp)
  refine ⟨fun b u h => ?_, e.sH, e.tk, fun b h1 h2 n => ?_, e.nO⟩
  · have h' := e.sF b u h
    rw [upd_ne (ne_of_none h' hF)]; exact h'
  · rw [upd_ne (fp0 b h1)]; exact e.nF b h1 h2 n
theorem Rep.freeze {K : PySem.W.Frag} {cs : Cs} {O : List Addr} {F H : Hp} {σ : L2.St} {Γ : List SV} {p : Addr} {o : HO} (r : Rep K cs O F σ H Γ) (hp : H p = some o) (hF : F p = none) (hO : p ∉ O) : Rep K cs O (upd F p o) σ H Γ := by
  refine r.later (fun b u h => ?_) (fun b u h => ?_) (fun b hb u h => h) fun b hb => ?_
  · rw [upd_ne (ne_of_none h hF)]; exact h
  · by_cases z : b = p
    · subst z; rw [upd_same] at h; cases h; exact hp
    · rw [upd_ne z] at h; exact r.same b u h
  · rw [upd_ne (fun z => hO (by rw [← z]; exact hb))]; exact r.fr b hb

/-- within a block nothing is let out -/
def wF : WX := fun _ _ _ _ => False
theorem takesF {X : Cx} : Takes X wF := takes0
/-- a clause's tests -/
structure PTsD {S : Type} (X : Cx) (cs : Cs) (W : WX) (Γ : S → List SV) (ifs : List Expr) (tt : TT) (m : S → R S Bool) : Prop where
  pt : PTs X ifs tt
  de : ∀ s O F σ H Q, Rep X.K cs O F σ H (Γ s) → PostT X.K cs W Γ O σ Q F H (m s) → tt σ H Q
section
variable {S : Type} {X : Cx} {cs : Cs} {W : WX} {Γ : S → List SV}
theorem ptsd_nil : PTsD X cs W Γ [] tYes (fun s => .ok true s) := ⟨pts_nil, fun s O F σ H Q r q => q F H (Ext.refl _ _ _) r⟩
theorem ptsd_one {c : Expr} {tt : TT} {m : S → R S Bool} (h : PTD X cs W Γ c tt m) : PTsD X cs W Γ [c] tt m := ⟨pts_one h.pt, h.de⟩
variable {elt tg iter : Expr} {ifs : List Expr} {scope : Scope} {own : List (Str × Nat)} {pos spos : Pos} {wi : TI} {g : TG} {tt : TT} {te : TE} {mi : S → R S (List D)} {Y : Type} {pat : D → Option Y} {bind : Y → List SV → List SV} {is : List Nat} {mt : Y → S → R S Bool} {me : Y → S → R S D}
/-- the part of a comprehension that knows no context -/
theorem lc_de (hi : ∀ s O F σ H Q, Rep X.K cs O F σ H (Γ s) → PostI X.K cs W Γ O σ Q F H (mi s) → wi σ H Q) (hg : PGD X cs tg g pat bind is) (hv : ∀ i ∈ is, i ∈ own.map (·.2)) (Γx : Y → S → List SV) (hb : ∀ y s, bind y (wG (Γ s) (own.map (·.2))) = Γx y s) (hw : ∀ y s, wG (Γx y s) (own.map (·.2)) = wG (Γ s) (own.map (·.2)))
    (ht : ∀ y s O F σ H Q, Rep X.K cs O F σ H (Γx y s) → PostT X.K cs wF (Γx y) O σ Q F H (mt y s) → tt σ H Q) (he : ∀ y s O F σ H Q, Rep X.K cs O F σ H (Γx y s) → Post rDV X.K cs wF (Γx y) O σ Q F H (me y s) → te σ H Q)
    (hu : ∀ s O F F' H H' σ s', Rep X.K cs O F σ H (Γ s) → Same F F' → Rep X.K cs O F' (wipe σ (own.map (·.2))) H' (wG (Γ s') (own.map (·.2))) → Rep X.K cs O F' σ H' (Γ s')) :
    ∀ s O F σ H Q, Rep X.K cs O F σ H (Γ s) → Post rDV X.K cs W Γ O σ Q F H ((mi s).bind fun ds s1 => (lcA ds [] s1 (fun x s2 => patR (pat x) fun y => (mt y s2).bind fun b s3 => if b then (me y s3).bind fun d s4 => .ok (some d) s4 else .ok none s3)).bind fun l s2 => .ok (.lst l) s2) → tLc wi g tt te (own.map (·.2)) σ H Q := by
  intro s O F σ H Q r q
  refine hi s O F σ H _ r ?_
  cases hm : mi s with
  | stuck => rw [hm] at q; exact q
  | err x s' => rw [hm] at q; exact q
  | ok ds s1 =>
    rw [hm] at q
    intro F1 H1 J e1 r1 wd p hp
    have q1 := Goal.mono Post.goal q e1
    simp only [R.bind_ok] at q1
    have ng : ∀ b, H1 b ≠ none → b ≠ p := fun b h z => h (by rw [z]; exact hp)
    have fp0 : F1 p = none := r1.same.free hp
    have pO : p ∉ O := fun z => r1.trk p z hp
    have x0 : Ext O F1 H1 O F1 (upd H1 p (.lst [])) := ⟨Same.refl _, fun b o h _ => by rw [upd_ne (ng b (by rw [h]; simp))]; exact h, fun b h => by rw [upd_ne (ng b h)]; exact h, fun b _ h _ => h, fun _ h => .inl h⟩
    have r0 : Rep X.K cs O F1 σ (upd H1 p (.lst [])) (Γ s1) := r1.later (Same.refl _) (fun b u h => by rw [upd_ne (ne_of_none h fp0)]; exact r1.same b u h) (fun b hb u h => by rw [upd_ne (ng b (by rw [h]; simp))]; exact h) r1.fr
    -- the walk
    refine ⟨fun i m H2 => m = ds.length - i ∧ i ≤ ds.length ∧ ∃ acc vs s2 F2, Ext O F1 H1 O F2 H2 ∧ Rep X.K cs O F2 σ H2 (Γ s2) ∧ H2 p = some (.lst vs) ∧ F2 p = none ∧ DVs X.K cs F2 vs acc ∧
        Post rDV X.K cs W Γ O σ Q F1 H1 ((lcA (ds.drop i) acc s2 (fun x s2 => patR (pat x) fun y => (mt y s2).bind fun b s3 => if b then (me y s3).bind fun d s4 => .ok (some d) s4 else .ok none s3)).bind fun l s2 => .ok (.lst l) s2),
      ⟨_, rfl, Nat.zero_le _, [], [], s1, F1, x0, r0, upd_same, fp0, .nil, q1⟩, ?_⟩
    rintro i m H2 ⟨rfl, hle, acc, vs, s2, F2, e2, r2, h2, f2, d2, q2⟩
    obtain ⟨w1, w2⟩ := wd F2 H2 e2.sF r2.same i
    by_cases hlt : i < ds.length
    · have hd : ds[i]? = some ds[i] := List.getElem?_eq_getElem hlt
      obtain ⟨go, yl⟩ := w1 _ hd
      rw [List.drop_eq_getElem_cons hlt] at q2
      rw [lcA] at q2
      refine .inr ⟨go, fun H3 => ∃ acc vs s3 F3, Ext O F1 H1 O F3 H3 ∧ Rep X.K cs O F3 σ H3 (Γ s3) ∧ H3 p = some (.lst vs) ∧ F3 p = none ∧ DVs X.K cs F3 vs acc ∧
          Post rDV X.K cs W Γ O σ Q F1 H1 ((lcA (ds.drop (i + 1)) acc s3 (fun x s2 => patR (pat x) fun y => (mt y s2).bind fun b s3 => if b then (me y s3).bind fun d s4 => .ok (some d) s4 else .ok none s3)).bind fun l s2 => .ok (.lst l) s2),
        fun H3 h3 => ⟨ds.length - (i + 1), by omega, rfl, hlt, h3⟩, fun x H3 y => ?_⟩
      obtain ⟨F3, g3, dx⟩ := yl x H3 y
      have r3 := g3.rep r2
      cases hpat : pat ds[i] with
      | none => rw [hpat] at q2; exact q2.elim
      | some y =>
        rw [hpat] at q2
        simp only [patR_some] at q2
        have p3 : H3 p = some (.lst vs) := g3.sH _ _ h2
        have f3 : F3 p = none := g3.nF p (by rw [h2]; simp) f2
        have e3 := e2.trans (g3.ext O)
        have rw3 := r3.wipe (own.map (·.2))
        refine hg.de (fc := ⟨[], []⟩) hpat ⟨rw3, (fun _ z => nomatch z)⟩ (fun _ _ z => nomatch z) dx fun σ4 r4 hl4 hs4 => ?_
        have ew : wipe σ4 (own.map (·.2)) = wipe σ (own.map (·.2)) := by
          have z1 : wipe σ4 (own.map (·.2)) = wipe (wipe σ (own.map (·.2))) (own.map (·.2)) := wipe_ext hl4 fun j hj => hs4 j fun z => hj (hv j z)
          rw [z1]
          exact wipe_ext (wipe_length _ _) fun j hj => wipe_keep hj
        refine ⟨ew, ?_⟩
        have r5 : Rep X.K cs O F3 σ4 H3 (Γx y s2) := by
          have := r4.rep
          rw [hb] at this; exact this
        have back : ∀ {s' F' H'}, Same F3 F' → Rep X.K cs O F' σ4 H' (Γx y s') → Rep X.K cs O F' σ H' (Γ s') := fun {s' F' H'} sf r' => by
          have z := r'.wipe (own.map (·.2))
          rw [ew, hw] at z
          exact hu s2 O F3 F' H3 H' σ s' r3 sf z
        refine ht y s2 O F3 σ4 H3 _ r5 ?_
        cases hmt : mt y s2 with
        | stuck => rw [hmt] at q2; exact q2.elim
        | err x' s' => rw [hmt] at q2; exact q2.elim
        | ok b s3 =>
          rw [hmt] at q2
          simp only [R.bind_ok] at q2
          intro F5 H5 e5 r6
          have p5 : H5 p = some (.lst vs) := e5.sH _ _ p3 pO
          have f5 : F5 p = none := e5.nF p (by rw [p3]; simp) f3 pO
          cases b with
          | false =>
            simp only [Bool.false_eq_true, if_false, noErr_ok, R.bind_ok] at q2 ⊢
            exact ⟨acc, vs, s3, F5, e3.trans e5, back e5.sF r6, p5, f5, d2.mono (g3.sF.trans e5.sF), q2⟩
          | true =>
            simp only [if_true] at q2 ⊢
            refine he y s3 O F5 σ4 H5 _ r6 ?_
            cases hme : me y s3 with
            | stuck => rw [hme] at q2; exact q2.elim
            | err x' s' => rw [hme] at q2; exact q2.elim
            | ok d s4 =>
              rw [hme] at q2
              simp only [noErr_ok, R.bind_ok] at q2
              intro F6 H6 z e6 r7 dz
              have p6 : H6 p = some (.lst vs) := e6.sH _ _ p5 pO
              have f6 : F6 p = none := e6.nF p (by rw [p5]; simp) f5 pO
              by_cases hacc : acc.length < 1000000
              · rw [if_pos hacc] at q2
                have d6 : DVs X.K cs F6 vs acc := d2.mono (g3.sF.trans (e5.sF.trans e6.sF))
                have r8 : Rep X.K cs O F6 σ H6 (Γ s4) := back (e5.sF.trans e6.sF) r7
                have ne6 : ∀ b o, F6 b = some o → b ≠ p := fun b o h z => by rw [z, f6] at h; cases h
                have e8 : Ext O F1 H1 O F6 H6 := (e3.trans e5).trans e6
                refine ⟨vs, p6, lim_lt (by rw [d6.length]; omega), acc ++ [d], vs ++ [z], s4, F6, ⟨e8.sF, fun b o h n => ?_, fun b h => ?_, e8.nF, e8.nO⟩, r8.later (Same.refl _) (fun b u h => ?_) (fun b hb u h => ?_) r8.fr, upd_same, f6, d6.app (.cons dz .nil), q2⟩
                · rw [upd_ne (ng b (by rw [h]; simp))]; exact e8.sH b o h n
                · rw [upd_ne (ng b h)]; exact e8.tk b h
                · rw [upd_ne (ne6 b u h)]; exact r8.same b u h
                · rw [upd_ne (fun q => pO (by rw [← q]; exact hb))]; exact h
              · rw [if_neg hacc] at q2; exact q2.elim
    · have e : i = ds.length := by omega
      refine .inl ⟨w2 e, ?_⟩
      subst e
      rw [List.drop_length, lcA] at q2
      simp only [R.bind_ok] at q2
      exact q2 (upd F2 p (.lst vs)) H2 (.ref p) (e2.freeze hp f2) (r2.freeze h2 f2 pO) (.lst upd_same (d2.mono fun b u h => by rw [upd_ne (ne_of_none h f2)]; exact h))
/-! ### .. put together -/
theorem wG_keep {Γ : List SV} {i : Nat} : ∀ {vs : List Nat}, i ∉ vs → (wG Γ vs)[i]? = Γ[i]?
  | [], _ => rfl
  | u :: vs, h => by
    simp only [List.mem_cons, not_or] at h
    unfold wG
    rw [set_off h.1]
    exact wG_keep h.2
theorem wG_mem {Γ : List SV} {i : Nat} : ∀ {vs : List Nat}, i ∈ vs → (wG Γ vs)[i]? = if i < Γ.length then some .unk else none
  | [], h => nomatch h
  | u :: vs, h => by
    unfold wG
    by_cases e : u = i
    · subst e
      by_cases hl : u < Γ.length
      · rw [if_pos hl, List.getElem?_set_self (by rw [wG_length]; exact hl)]
      · rw [if_neg hl, List.getElem?_eq_none (by rw [List.length_set, wG_length]; omega)]
    · rw [List.getElem?_set_ne e]
      rcases List.mem_cons.mp h with z | z
      · exact absurd z.symm e
      · exact wG_mem z
theorem wG_ext {Γ Δ : List SV} {vs : List Nat} (hl : Γ.length = Δ.length) (h : ∀ j, j ∉ vs → Γ[j]? = Δ[j]?) : wG Γ vs = wG Δ vs := by
  apply List.ext_getElem?
  intro i
  by_cases hi : i ∈ vs
  · rw [wG_mem hi, wG_mem hi, hl]
  · rw [wG_keep hi, wG_keep hi]; exact h i hi
/-- the data are the same, the owned ones stand in the same places -/
inductive Sd : List SV → List SV → Prop
  | nil : Sd [] []
  | eq {a : SV} {A B : List SV} : Sd A B → Sd (a :: A) (a :: B)
  | own {o o' : OV} {A B : List SV} : Sd A B → Sd (.own o :: A) (.own o' :: B)
theorem Sd.refl : ∀ A : List SV, Sd A A
  | [] => .nil
  | a :: A => .eq (Sd.refl A)
theorem Sd.dat {A B : List SV} (h : Sd A B) {i : Nat} {d : D} (e : B[i]? = some (.dat d)) : A[i]? = some (.dat d) := by
  induction h generalizing i with
  | nil => exact e
  | eq _ ih =>
    cases i with
    | zero => exact e
    | succ i => exact ih e
  | own _ ih =>
    cases i with
    | zero => cases e
    | succ i => exact ih e
theorem Sd.length {A B : List SV} (h : Sd A B) : A.length = B.length := by
  induction h with
  | nil => rfl
  | eq _ ih => simp [ih]
  | own _ ih => simp [ih]
def noOwn (Γ : List SV) : List Nat → Prop
  | [] => True
  | v :: vs => (match Γ[v]? with | some (.own _) => False | _ => True) ∧ noOwn Γ vs
theorem noOwn_mem {Γ : List SV} {o : OV} {i : Nat} : ∀ {vs : List Nat}, noOwn Γ vs → Γ[i]? = some (.own o) → i ∉ vs
  | [], _, _ => by simp
  | v :: vs, h, e => by
    simp only [List.mem_cons, not_or]
    refine ⟨fun z => ?_, noOwn_mem h.2 e⟩
    subst z
    have := h.1
    rw [e] at this
    exact this
theorem unwipe {K : PySem.W.Frag} {Γ : S → List SV} {vs : List Nat} (sd : ∀ s s', Sd (Γ s) (Γ s')) (no : ∀ s, noOwn (Γ s) vs) : ∀ s O F F' H H' σ s', Rep K cs O F σ H (Γ s) → Same F F' → Rep K cs O F' (wipe σ vs) H' (wG (Γ s') vs) → Rep K cs O F' σ H' (Γ s') := by
  intro s O F F' H H' σ s' r sf r'
  have ow : ∀ (i : Nat) (o : OV), (Γ s')[i]? = some (.own o) → i ∉ vs ∧ (wG (Γ s') vs)[i]? = some (.own o) := fun i o h => by
    have n := noOwn_mem (no s') h
    exact ⟨n, by rw [wG_keep n]; exact h⟩
  refine ⟨r'.same, by rw [r.len, (sd s s').length], fun i d h => ?_, fun i o h => ?_, fun i j o o' v v' hij h1 h2 h3 h4 => ?_, r'.fr, r'.trk⟩
  · obtain ⟨v, h1, h2⟩ := r.dat i d ((sd s s').dat h)
    exact ⟨v, h1, h2.mono sf⟩
  · obtain ⟨n, g⟩ := ow i o h
    obtain ⟨v, h1, h2⟩ := r'.own i o g
    rw [wipe_keep n] at h1
    exact ⟨v, h1, h2⟩
  · obtain ⟨n1, g1⟩ := ow i o h1
    obtain ⟨n2, g2⟩ := ow j o' h2
    refine r'.dis i j o o' v v' hij g1 g2 ?_ ?_
    · rw [wipe_keep n1]; exact h3
    · rw [wipe_keep n2]; exact h4
theorem wG_bind {X' : Cx} {tg : Expr} {g : TG} {vs : List Nat} (G : PGD X' cs tg g pat bind is) (hv : ∀ i ∈ is, i ∈ vs) (y : Y) (Γ : List SV) : wG (bind y (wG Γ vs)) vs = wG Γ vs := by
  have e : wG (bind y (wG Γ vs)) vs = wG (wG Γ vs) vs := wG_ext (G.bl y _) fun j hj => G.bs y _ j fun z => hj (hv j z)
  rw [e]
  exact wG_ext (wG_length _ _) fun j hj => wG_keep hj
abbrev lcM {S Y : Type} (mi : S → R S (List D)) (pat : D → Option Y) (mt : Y → S → R S Bool) (me : Y → S → R S D) : S → R S D := fun s => (mi s).bind fun ds s1 => (lcA ds [] s1 (fun x s2 => patR (pat x) fun y => (mt y s2).bind fun b s3 => if b then (me y s3).bind fun d s4 => .ok (some d) s4 else .ok none s3)).bind fun l s2 => .ok (.lst l) s2
theorem pd_lc (y0 : Y) (hc : X.calm = true) (hN : X.N.Nodup) (hi : PID X cs W Γ tg iter wi mi) (ok : BlkOk X.N X.env.scope scope own)
    (hg : ∀ (s : Shared) (H : Hp) (C : Addr) (cl : List (Str × Addr)) (fp : List Addr), PGD (X.blk s H scope (compEnvC scope cl C X.env) fp) cs tg g pat bind is) (hv : ∀ i ∈ is, i ∈ own.map (·.2)) (sd : ∀ s s', Sd (Γ s) (Γ s')) (no : ∀ s, noOwn (Γ s) (own.map (·.2)))
    (ht : ∀ (y : Y) (s : Shared) (H : Hp) (C : Addr) (cl : List (Str × Addr)) (fp : List Addr), PTsD (X.blk s H scope (compEnvC scope cl C X.env) fp) cs wF (fun s => bind y (wG (Γ s) (own.map (·.2)))) ifs tt (mt y))
    (he : ∀ (y : Y) (s : Shared) (H : Hp) (C : Addr) (cl : List (Str × Addr)) (fp : List Addr), PD (X.blk s H scope (compEnvC scope cl C X.env) fp) cs wF (fun s => bind y (wG (Γ s) (own.map (·.2)))) elt te (me y)) (hs : ∀ x, foldedSetIterable iter X.env x = pure x := by intro _; rfl) :
    PD X cs W Γ (.ListComp elt [⟨tg, iter, ifs, 0⟩] scope pos) (tLc wi g tt te (own.map (·.2))) (lcM mi pat mt me) := by
  have G0 := hg {} (fun _ => none) 0 [] []
  refine ⟨pe_lc hc hN hi.pi ok (fun s H C cl fp => (hg s H C cl fp).pg) (fun s H C cl fp => (ht y0 s H C cl fp).pt) (fun s H C cl fp => (he y0 s H C cl fp).pe) hs, ?_⟩
  exact lc_de (X := X.blk {} (fun _ => none) scope (compEnvC scope [] 0 X.env) []) hi.de G0 hv (fun y s => bind y (wG (Γ s) (own.map (·.2)))) (fun _ _ => rfl) (fun y s => wG_bind G0 hv y (Γ s)) (fun y => (ht y {} (fun _ => none) 0 [] []).de) (fun y => (he y {} (fun _ => none) 0 [] []).de) (unwipe sd no)
/-- x = [..] on one line -/
theorem ps_lc {i : Nat} {y : Str} {py : Pos} (y0 : Y) (hc : X.calm = true) (hN : X.N.Nodup) (hy : X.N[i]? = some y) (hyl : X.env.scope.names.lookup y = some .local)
    (hsw : swapsWith (.ListComp elt [⟨tg, iter, ifs, 0⟩] scope pos) (some (.Name y py)) spos.line X.env = pure true) (hi : PID X cs W Γ tg iter wi mi) (ok : BlkOk X.N X.env.scope scope own)
    (hg : ∀ (s : Shared) (H : Hp) (C : Addr) (cl : List (Str × Addr)) (fp : List Addr), PGD (X.blk s H scope (compEnvC scope cl C X.env) fp) cs tg g pat bind is)
    (ht : ∀ (y : Y) (s : Shared) (H : Hp) (C : Addr) (cl : List (Str × Addr)) (fp : List Addr), PTsD (X.blk s H scope (compEnvC scope cl C X.env) fp) cs wF (fun s => bind y (wG (Γ s) (own.map (·.2)))) ifs tt (mt y))
    (he : ∀ (y : Y) (s : Shared) (H : Hp) (C : Addr) (cl : List (Str × Addr)) (fp : List Addr), PD (X.blk s H scope (compEnvC scope cl C X.env) fp) cs wF (fun s => bind y (wG (Γ s) (own.map (·.2)))) elt te (me y)) (hs : ∀ x, foldedSetIterable iter X.env x = pure x := by intro _; rfl) :
    PS X (.Assign [.Name y py] (.ListComp elt [⟨tg, iter, ifs, 0⟩] scope pos) spos) (tAsg (tLc wi g tt te (own.map (·.2))) (gName i)) :=
  ps_setLc hc hN hy hyl hsw hi.pi ok (fun s H C cl fp => (hg s H C cl fp).pg) (fun s H C cl fp => (ht y0 s H C cl fp).pt) (fun s H C cl fp => (he y0 s H C cl fp).pe) hs
end
end HD
set_option maxRecDepth 100000
set_option maxHeartbeats 4000000
namespace HD
open PySem PySem.Spec PyProof.Rows L2

/-! ### owned slots: made, changed, frozen -/
section
variable {K : PySem.W.Frag} {cs : Cs} {O : List Addr} {F F' H H' : Hp} {σ : L2.St} {Γ : List SV}
theorem own_set {Γ : List SV} {i j : Nat} {o o' : OV} (h : (Γ.set i (.own o))[j]? = some (.own o')) : (j = i ∧ o' = o ∧ i < Γ.length) ∨ (j ≠ i ∧ Γ[j]? = some (.own o')) := by
  by_cases e : j = i
  · subst e
    by_cases hl : j < Γ.length
    · rw [List.getElem?_set_self hl] at h; cases h; exact .inl ⟨rfl, rfl, hl⟩
    · rw [List.getElem?_eq_none (by simpa using hl)] at h; cases h
  · rw [set_off e] at h; exact .inr ⟨e, h⟩
theorem dat_set {Γ : List SV} {i j : Nat} {o : OV} {d : D} (h : (Γ.set i (.own o))[j]? = some (.dat d)) : j ≠ i ∧ Γ[j]? = some (.dat d) := by
  by_cases e : j = i
  · subst e
    by_cases hl : j < Γ.length
    · rw [List.getElem?_set_self hl] at h; cases h
    · rw [List.getElem?_eq_none (by simpa using hl)] at h; cases h
  · rw [set_off e] at h; exact ⟨e, h⟩
theorem Rep.newOwn {i : Nat} {o : OV} {p : Addr} (r : Rep K cs O F σ H Γ) (hO : p ∉ O) (hF : F p = none) (hH : H p ≠ none) (ho : Own K cs F H o (.ref p)) (hf : fp o (.ref p) = [p]) :
    Rep K cs (p :: O) F (σ.set i (some (.ref p))) H (Γ.set i (.own o)) where
  same := r.same
  len := by simp [r.len]
  dat := fun j d h => by
    obtain ⟨n, h⟩ := dat_set h
    rw [set_off n]
    exact r.dat j d h
  own := fun j o' h => by
    rcases own_set h with ⟨rfl, rfl, hl⟩ | ⟨n, h⟩
    · exact ⟨.ref p, List.getElem?_set_self (by rw [r.len]; exact hl), ho, fun b hb => by rw [hf] at hb; simp at hb; simp [hb]⟩
    · obtain ⟨v, h1, h2, h3⟩ := r.own j o' h
      exact ⟨v, by rw [set_off n]; exact h1, h2, fun b hb => List.mem_cons_of_mem _ (h3 b hb)⟩
  dis := fun j k o1 o2 v1 v2 hjk h1 h2 h3 h4 b hb => by
    rcases own_set h1 with ⟨rfl, rfl, hl⟩ | ⟨n1, g1⟩
    · rcases own_set h2 with ⟨rfl, rfl, _⟩ | ⟨n2, g2⟩
      · exact absurd rfl hjk
      · rw [List.getElem?_set_self (by rw [r.len]; exact hl)] at h3
        cases h3
        rw [set_off n2] at h4
        obtain ⟨v, e1, _, e3⟩ := r.own k o2 g2
        rw [e1] at h4; cases h4
        rw [hf] at hb; simp at hb; subst hb
        exact fun z => hO (e3 b z)
    · rw [set_off n1] at h3
      obtain ⟨v, e1, _, e3⟩ := r.own j o1 g1
      rw [e1] at h3; cases h3
      rcases own_set h2 with ⟨rfl, rfl, hl⟩ | ⟨n2, g2⟩
      · rw [List.getElem?_set_self (by rw [r.len]; exact hl)] at h4
        cases h4
        intro z
        rw [hf] at z; simp at z; subst z
        exact hO (e3 b hb)
      · rw [set_off n2] at h4
        exact r.dis j k o1 o2 _ _ hjk g1 g2 e1 h4 b hb
  fr := fun b hb => by
    rcases List.mem_cons.mp hb with rfl | hb
    · exact hF
    · exact r.fr b hb
  trk := fun b hb => by
    rcases List.mem_cons.mp hb with rfl | hb
    · exact hH
    · exact r.trk b hb
theorem Rep.updOwn {i : Nat} {o o' : OV} {v : V} (r : Rep K cs O F σ H Γ) (h : Γ[i]? = some (.own o)) (hv : σ[i]? = some (some v)) (ho : Own K cs F H' o' v) (hf : fp o' v = fp o v) (k : ∀ b u, b ∉ fp o v → H b = some u → H' b = some u) (kt : ∀ b, H b ≠ none → H' b ≠ none) :
    Rep K cs O F σ H' (Γ.set i (.own o')) where
  same := fun b u hb => k b u (fun z => by
    obtain ⟨v', e1, _, e3⟩ := r.own i o h
    rw [hv] at e1; cases e1
    have := r.fr b (e3 b z)
    rw [hb] at this; cases this) (r.same b u hb)
  len := by simp [r.len]
  dat := fun j d hj => by
    obtain ⟨n, hj⟩ := dat_set hj
    exact r.dat j d hj
  own := fun j o2 hj => by
    obtain ⟨v', e1, e2, e3⟩ := r.own i o h
    rw [hv] at e1; cases e1
    rcases own_set hj with ⟨rfl, rfl, hl⟩ | ⟨n, hj⟩
    · exact ⟨v, hv, ho, fun b hb => e3 b (by rw [← hf]; exact hb)⟩
    · obtain ⟨v2, g1, g2, g3⟩ := r.own j o2 hj
      exact ⟨v2, g1, g2.keep (Same.refl _) fun b hb u => k b u (fun z => r.dis j i o2 o v2 v n hj h g1 hv b hb z), g3⟩
  dis := fun j l o1 o2 v1 v2 hjl h1 h2 h3 h4 b hb => by
    rcases own_set h1 with ⟨rfl, rfl, hl⟩ | ⟨n1, g1⟩
    · rw [hv] at h3; cases h3
      rcases own_set h2 with ⟨rfl, rfl, _⟩ | ⟨n2, g2⟩
      · exact absurd rfl hjl
      · exact r.dis j l o o2 v v2 hjl h g2 hv h4 b (by rw [← hf]; exact hb)
    · rcases own_set h2 with ⟨rfl, rfl, _⟩ | ⟨n2, g2⟩
      · rw [hv] at h4; cases h4
        rw [hf]
        exact r.dis j l o1 o v1 v hjl g1 h h3 hv b hb
      · exact r.dis j l o1 o2 v1 v2 hjl g1 g2 h3 h4 b hb
  fr := r.fr
  trk := fun b hb => kt b (r.trk b hb)
/-- behind a freezing: what it was is data -/
theorem Rep.fz {i : Nat} {ds : List D} (r : Rep K cs O F σ H Γ) (h : Γ[i]? = some (.own (.lst ds))) : ∃ p vs, σ[i]? = some (some (.ref p)) ∧ H p = some (.lst vs) ∧ p ∈ O ∧ Rep K cs (O.filter fun b => decide (b ≠ p)) (upd F p (.lst vs)) σ H (Γ.set i (.dat (.lst ds))) ∧
    Ext O F H (O.filter fun b => decide (b ≠ p)) (upd F p (.lst vs)) H := by
  obtain ⟨v, h1, ⟨p, vs, rfl, h2, h3⟩, h4⟩ := r.own i _ h
  have pO : p ∈ O := h4 p (by simp [fp])
  have hF : F p = none := r.fr p pO
  have sF : Same F (upd F p (.lst vs)) := fun b u hb => by rw [upd_ne (ne_of_none hb hF)]; exact hb
  have mem : ∀ b, b ∈ O.filter (fun b => decide (b ≠ p)) ↔ b ∈ O ∧ b ≠ p := fun b => by simp [List.mem_filter]
  refine ⟨p, vs, h1, h2, pO, ⟨fun b u hb => ?_, by simp [r.len], fun j d hj => ?_, fun j o hj => ?_, fun j k o1 o2 v1 v2 hjk g1 g2 g3 g4 => ?_, fun b hb => ?_, fun b hb => ?_⟩, sF, fun b u hb _ => hb, fun b hb => hb, fun b hb1 hb2 n => ?_, fun b hb => ?_⟩
  · by_cases z : b = p
    · subst z; rw [upd_same] at hb; cases hb; exact h2
    · rw [upd_ne z] at hb; exact r.same b u hb
  · by_cases e : j = i
    · subst e
      by_cases hl : j < Γ.length
      · rw [List.getElem?_set_self hl] at hj; cases hj
        exact ⟨_, h1, .lst upd_same (h3.mono sF)⟩
      · rw [List.getElem?_eq_none (by simpa using hl)] at hj; cases hj
    · rw [set_off e] at hj
      obtain ⟨v, e1, e2⟩ := r.dat j d hj
      exact ⟨v, e1, e2.mono sF⟩
  · by_cases e : j = i
    · subst e
      by_cases hl : j < Γ.length
      · rw [List.getElem?_set_self hl] at hj; cases hj
      · rw [List.getElem?_eq_none (by simpa using hl)] at hj; cases hj
    · rw [set_off e] at hj
      obtain ⟨v, e1, e2, e3⟩ := r.own j o hj
      refine ⟨v, e1, e2.keep sF fun _ _ _ z => z, fun b hb => (mem b).mpr ⟨e3 b hb, fun z => ?_⟩⟩
      exact r.dis j i o _ v _ e hj h e1 h1 b hb (by simp [fp, z])
  · have off : ∀ (m : Nat) (o : OV), (Γ.set i (.dat (.lst ds)))[m]? = some (.own o) → Γ[m]? = some (.own o) := fun m o hm => by
      by_cases e : m = i
      · subst e
        by_cases hl : m < Γ.length
        · rw [List.getElem?_set_self hl] at hm; cases hm
        · rw [List.getElem?_eq_none (by simpa using hl)] at hm; cases hm
      · rw [set_off e] at hm; exact hm
    exact r.dis j k o1 o2 v1 v2 hjk (off j o1 g1) (off k o2 g2) g3 g4
  · rw [upd_ne ((mem b).mp hb).2]; exact r.fr b ((mem b).mp hb).1
  · exact r.trk b ((mem b).mp hb).1
  · have : b ≠ p := fun z => n (by rw [z]; exact pO)
    rw [upd_ne this]; exact hb2
  · exact .inl ((mem b).mp hb).1
end

/-! ### an expression that makes a new list -/
section
variable {S : Type} {X : Cx} {cs : Cs} {W : WX} {Γ : S → List SV} {e a b : Expr} {es : List Expr} {te ta tb : TE} {t : TA} {m : S → R S (List D)} {md ma mb : S → R S D} {pos apos p : Pos}
def PostF (K : PySem.W.Frag) (cs : Cs) (W : WX) (Γ : S → List SV) (O : List Addr) (σ : L2.St) (Q : VK) (F H : Hp) : R S (List D) → Prop
  | .ok ds s' => ∀ F' H' p vs, p ∉ O → Ext O F H (p :: O) F' H' → Rep K cs O F' σ H' (Γ s') → H' p = some (.lst vs) → F' p = none → DVs K cs F' vs ds → Q (.ref p) H'
  | .err x s' => ∀ F' H' cls dd, Ext O F H O F' H' → Rep K cs O F' σ H' (Γ s') → XVr K cs F' x cls dd → W cls dd σ H'
  | .stuck => False
theorem PostF.goal {K : PySem.W.Frag} {O : List Addr} {σ : L2.St} {Q : VK} : Goal K cs W Γ O σ (PostF K cs W Γ O σ Q) where
  mono := fun {F H F' H' r} p e => by
    cases r with
    | ok d s => exact fun F2 H2 a vs n e2 => p F2 H2 a vs n (e.trans e2)
    | err x s => exact fun F2 H2 c d e2 => p F2 H2 c d (e.trans e2)
    | stuck => exact p
  stuck := fun p => p
  err := fun p r x => p _ _ _ _ (Ext.refl _ _ _) r x
structure PF (X : Cx) (cs : Cs) (W : WX) (Γ : S → List SV) (e : Expr) (te : TE) (m : S → R S (List D)) : Prop where
  pe : PE X e te
  de : ∀ s O F σ H Q, Rep X.K cs O F σ H (Γ s) → PostF X.K cs W Γ O σ Q F H (m s) → te σ H Q
/-- a new object that is not frozen -/
theorem Ext.fresh {O : List Addr} {F H : Hp} {p : Addr} {o : HO} (hp : H p = none) : Ext O F H (p :: O) F (upd H p o) := by
  have ne : ∀ b, H b ≠ none → b ≠ p := fun b h z => h (by rw [z]; exact hp)
  refine ⟨Same.refl _, fun b u h _ => ?_, fun b h => ?_, fun b _ h _ => h, fun b h => ?_⟩
  · rw [upd_ne (ne b (by rw [h]; simp))]; exact h
  · rw [upd_ne (ne b h)]; exact h
  · rcases List.mem_cons.mp h with z | z
    · right; rw [z]; exact hp
    · exact .inl z
theorem Rep.fresh {K : PySem.W.Frag} {O : List Addr} {F H : Hp} {σ : L2.St} {Γ : List SV} {p : Addr} {o : HO} (r : Rep K cs O F σ H Γ) (hp : H p = none) : Rep K cs O F σ (upd H p o) Γ := by
  refine r.later (Same.refl _) (fun b u h => ?_) (fun b hb u h => ?_) r.fr
  · rw [upd_ne (ne_of_none (r.same b u h) hp)]; exact r.same b u h
  · rw [upd_ne (ne_of_none h hp)]; exact h
theorem PF.run (h : PF X cs W Γ e te m) {β : Type} {G : Hp → Hp → R S β → Prop} {O : List Addr} {σ : L2.St} (g : Goal X.K cs W Γ O σ G) {s : S} {F H : Hp} {k : List D → S → R S β} {Q : VK} (r : Rep X.K cs O F σ H (Γ s)) (q : G F H ((m s).bind k))
    (hQ : ∀ ds s' F' H' p vs, p ∉ O → Ext O F H (p :: O) F' H' → Rep X.K cs O F' σ H' (Γ s') → H' p = some (.lst vs) → F' p = none → DVs X.K cs F' vs ds → G F' H' (k ds s') → Q (.ref p) H') : te σ H Q := by
  refine h.de s O F σ H Q r ?_
  cases hm : m s with
  | ok d s' => rw [hm] at q; exact fun F' H' p vs n e1 r1 h1 f1 dv => hQ d s' F' H' p vs n e1 r1 h1 f1 dv (g.mono q ⟨e1.sF, e1.sH, e1.tk, e1.nF, fun _ z => .inl z⟩)
  | err x s' => rw [hm] at q; exact fun F' H' c d e1 r1 xv => g.err (g.mono q e1) r1 xv
  | stuck => rw [hm] at q; exact absurd q g.stuck
/-- .. frozen at once -/
theorem PF.pd (h : PF X cs W Γ e te m) : PD X cs W Γ e te (fun s => (m s).bind fun l s1 => .ok (.lst l) s1) := by
  refine ⟨h.pe, fun s O F σ H Q r q => ?_⟩
  refine h.de s O F σ H Q r ?_
  cases hm : m s with
  | ok ds s' =>
    rw [hm] at q
    intro F' H' p vs n e1 r1 h1 f1 dv
    have hp : H p = none := (e1.nO p (by simp)).resolve_left n
    have e2 : Ext O F H O F' H' := ⟨e1.sF, e1.sH, e1.tk, e1.nF, fun _ z => .inl z⟩
    exact q (upd F' p (.lst vs)) H' (.ref p) (e2.freeze hp f1) (r1.freeze h1 f1 n) (.lst upd_same (dv.mono fun b u z => by rw [upd_ne (ne_of_none z f1)]; exact z))
  | err x s' => rw [hm] at q; exact q
  | stuck => rw [hm] at q; exact q
theorem PostF.new {K : PySem.W.Frag} {O : List Addr} {σ : L2.St} {Q : VK} {F H : Hp} {ds : List D} {s : S} {p : Addr} {vs : List V} (q : PostF K cs W Γ O σ Q F H (.ok ds s)) (r : Rep K cs O F σ H (Γ s)) (hp : H p = none) (dv : DVs K cs F vs ds) : Q (.ref p) (upd H p (.lst vs)) :=
  q F _ p vs (fun z => r.trk p z hp) (Ext.fresh hp) (r.fresh hp) upd_same (r.same.free hp) dv
variable {ms : (β : Type) → S → (List D → S → R S β) → R S β}
def capR {S : Type} (l : List D) (s : S) : R S (List D) := if l.length ≤ 1000000 then .ok l s else .stuck
theorem pf_lst (h : PAD X cs W Γ es t ms) : PF X cs W Γ (.List es pos) (tLst t) (fun s => ms (List D) s fun ds s1 => capR ds s1) := by
  refine ⟨pe_lst h.pa, fun s O F σ H Q r q => ?_⟩
  refine h.de PostF.goal r q fun ds s1 F1 H1 vs e1 r1 d1 l1 q1 => ?_
  unfold capR at q1
  by_cases hl : ds.length ≤ 1000000
  · rw [if_pos hl] at q1
    exact ⟨lim_line (by rw [d1.length]; exact hl), fun p hp => PostF.new q1 r1 hp d1⟩
  · rw [if_neg hl] at q1; exact q1.elim
/-- a one-place operation on a readable value that makes a new list -/
def UnF (rl : Rl) (K : PySem.W.Frag) (cs : Cs) (r : V → Hp → VK → Prop) (f : D → Option (List D)) : Prop := ∀ (x : D) (z : List D), f x = some z → ∀ (O : List Addr) (F H : Hp) (v : V) (Q : VK), Same F H → rl K cs O F H v x → (∀ p vs, H p = none → DVs K cs F vs z → Q (.ref p) (upd H p (.lst vs))) → r v H Q
theorem pf_one {rl : Rl} {r : V → Hp → VK → Prop} {f : D → Option (List D)} {e : Expr} {te : TE} (he : PE X e te) (ht : ∀ σ H Q, ta σ H (fun v H1 => r v H1 Q) → te σ H Q) (ho : UnF rl X.K cs r f) (ha : PDr rl X cs W Γ a ta ma) :
    PF X cs W Γ e te (fun s => (ma s).bind fun x s1 => opt (f x) s1) := by
  refine ⟨he, fun s O F σ H Q r q => ht _ _ _ ?_⟩
  refine ha.run PostF.goal r q fun x s1 F1 H1 v e1 r1 d1 q1 => ?_
  cases hf : f x with
  | none => rw [hf] at q1; exact q1.elim
  | some z => rw [hf] at q1; exact ho x z hf O F1 H1 v Q r1.same d1 fun p vs hp dv => PostF.new q1 r1 hp dv
theorem f_list : UnF rRV X.K cs (rOne fun xs H Q => ∃ p ys, xs = [.ref p] ∧ (SqL X.K H p ys ∨ SqT X.K H p ys) ∧ ∀ l, H l = none → Q (.ref l) (upd H l (.lst ys))) seqOf := by
  intro x z hf O F H v Q e hx q
  cases x <;> simp only [seqOf] at hf <;> try (cases hf; done)
  case lst ds =>
    cases hf
    obtain ⟨p, vs, rfl, h, t⟩ := rRV_lst e hx
    exact ⟨_, vs, rfl, .inl (SqL.of h), fun l hl => q _ _ hl t⟩
  case tup ds =>
    cases hf
    obtain ⟨p, vs, rfl, h, t⟩ := rRV_tup e hx
    exact ⟨_, vs, rfl, .inr h, fun l hl => q _ _ hl t⟩
/-- list(e) -/
theorem pf_list {x : Str} (hg : Gl X x) (hm : X.mg x = none) (hv : bootBuiltins x = some (.type "list")) (ha : PR X cs W Γ e te md)
    (hn : x ≠ "__name__" := by decide) (hdb : (x == ("__debug__" : Str)) = false := by decide) (hs : starEach [e] X.env = (false, eval e X.env) :: starEach [] X.env := by rfl) :
    PF X cs W Γ (.Call (.Name x p) [e] [] pos) (tCB (fun xs H Q => ∃ p ys, xs = [.ref p] ∧ (SqL X.K H p ys ∨ SqT X.K H p ys) ∧ ∀ l, H l = none → Q (.ref l) (upd H l (.lst ys))) (tCons te tNil)) (fun s => (md s).bind fun x s1 => opt (seqOf x) s1) :=
  pf_one (ta := te) (pe_callTy call_list_of hg hm hv (pa_cons ha.pe pa_nil hs) hn hdb hs rfl) (fun _ _ _ q => q) f_list ha

/-! ### statements over owned lists -/
variable {ρ : Rho S} {Tn Tl : Type} {Γn : Tn → S → List SV} {Γl : Tl → S → List SV} {st : Stmt} {rest : List Stmt} {tr : TS}
/-- x = a new list, from now on owned -/
theorem pb_own {i : Nat} {mr : BM S Tn Tl} (put : S → List D → S) (Γ' : S → List SV) (hp : PE X e te → PS X st (tAsg te (gName i))) (he : PF X cs W Γ e te m) (hρ : ∀ s, Has ρ (Γ s) s) (hi : i ∉ jOf ρ) (hΓ : ∀ s l, Γ' (put s l) = (Γ s).set i (.own (.lst l)))
    (hr : PB X cs W ρ Γ' rest tr Γn Γl mr) : PB X cs W ρ Γ (st :: rest) (tSeq (tAsg te (gName i)) tr) Γn Γl (fun β s kr kn kb kc => (m s).bind fun l s1 => mr β (put s1 l) kr kn kb kc) := by
  refine ⟨pss_cons (hp he.pe) hr.ps, ?_⟩
  intro β fc G g hj s O F H σ D' kr kn kb kc r q k
  refine he.de s O F σ H _ r.rep ?_
  cases hm : m s with
  | stuck => rw [hm] at q; exact absurd q g.stuck
  | err x s' => rw [hm] at q; exact fun F' H' c d e1 r1 xv => g.err (g.mono q e1) (r.to r1) (hρ s') xv
  | ok ds s1 =>
  rw [hm] at q
  simp only [R.bind_ok] at q
  intro F1 H1 p vs n e1 r1 h1 f1 dv
  have r2 : Rep X.K cs (p :: O) F1 (σ.set i (some (.ref p))) H1 (Γ' (put s1 ds)) := by
    rw [hΓ]
    exact r1.newOwn n f1 (by rw [h1]; simp) ⟨p, vs, rfl, h1, dv⟩ rfl
  refine hr.de g hj ⟨r2, fun j hj' => ?_⟩ (g.mono q e1) (k.later e1)
  rw [set_off (fun z => hi (by rw [← hj, ← z]; exact hj'))]
  exact r.slots j hj'
/-- a changed owned slot, for the frame -/
theorem RepF.updOwn {K : PySem.W.Frag} {fc : Fc} {O : List Addr} {F H H' : Hp} {σ : L2.St} {Γ0 : List SV} {i : Nat} {o o' : OV} {v : V} (r : RepF K cs fc O F σ H Γ0) (h : Γ0[i]? = some (.own o)) (hv : σ[i]? = some (some v)) (ho : Own K cs F H' o' v) (hf : fp o' v = fp o v)
    (k : ∀ b u, b ∉ fp o v → H b = some u → H' b = some u) (kt : ∀ b, H b ≠ none → H' b ≠ none) : RepF K cs fc O F σ H' (Γ0.set i (.own o')) := ⟨r.rep.updOwn h hv ho hf k kt, r.slots⟩
theorem ext_own {K : PySem.W.Frag} {O : List Addr} {F H : Hp} {σ : L2.St} {Γ0 : List SV} {p : Addr} {o : HO} (r : Rep K cs O F σ H Γ0) (hp : p ∈ O) : Ext O F H O F (upd H p o) := by
  refine ⟨Same.refl _, fun b u h n => ?_, fun b h => ?_, fun b _ h _ => h, fun _ h => .inl h⟩
  · rw [upd_ne (fun z => n (by rw [z]; exact hp))]; exact h
  · by_cases z : b = p
    · rw [z, upd_same]; simp
    · rw [upd_ne z]; exact h
theorem upd_tk {H : Hp} {p : Addr} {o : HO} : ∀ b, H b ≠ none → upd H p o b ≠ none := fun b h => by
  by_cases z : b = p
  · rw [z, upd_same]; simp
  · rw [upd_ne z]; exact h
/-- x.append(e) -/
theorem pb_append {i : Nat} {mr : BM S Tn Tl} {o : Expr} {cpos : Pos} (get : S → List D) (put : S → List D → S) (ho : PE X o (tVar i)) (he : PD X cs W Γ e te md) (hρ : ∀ s, Has ρ (Γ s) s) (hρ' : ∀ s l, Has ρ (Γ (put s l)) (put s l)) (hg : ∀ s, (Γ s)[i]? = some (.own (.lst (get s)))) (hΓ : ∀ s l, Γ (put s l) = (Γ s).set i (.own (.lst l)))
    (hr : PB X cs W ρ Γ rest tr Γn Γl mr) (hs : starEach [e] X.env = (false, eval e X.env) :: starEach [] X.env := by rfl)
    (hp : PE X (.Call (.Attribute o "append" apos) [e] [] cpos) (tBM X.K "list" rAppend (tVar i) (tCons te tNil)) → PS X st (tDrop (tBM X.K "list" rAppend (tVar i) (tCons te tNil))))
    (hpe : PE X (.Call (.Attribute o "append" apos) [e] [] cpos) (tBM X.K "list" rAppend (tVar i) (tCons te tNil))) :
    PB X cs W ρ Γ (st :: rest) (tSeq (tDrop (tBM X.K "list" rAppend (tVar i) (tCons te tNil))) tr) Γn Γl (fun β s kr kn kb kc => (md s).bind fun d s1 => if (get s1).length < 1000000 then mr β (put s1 (get s1 ++ [d])) kr kn kb kc else .stuck) := by
  refine ⟨pss_cons (hp hpe) hr.ps, ?_⟩
  intro β fc G g hj s O F H σ D' kr kn kb kc r q k
  obtain ⟨v, h1, ⟨p, vs, rfl, h2, _⟩, h4⟩ := r.rep.own i _ (hg s)
  refine ⟨_, h1, .inl ⟨rfl, _, SqL.of h2⟩, ?_⟩
  refine he.run (g.goal r hρ) r.rep q fun d s1 F1 H1 w e1 r1 d1 q1 => ?_
  obtain ⟨v', g1, ⟨p', vs1, ev, g2, g3⟩, g4⟩ := r1.own i _ (hg s1)
  rw [h1] at g1; cases g1
  cases ev
  have pO : p ∈ O := g4 p (by simp [fp])
  by_cases hl : (get s1).length < 1000000
  · rw [if_pos hl] at q1
    refine ⟨p, vs1, w, rfl, rfl, g2, lim_lt (by rw [g3.length]; omega), ?_⟩
    have rf1 := r.to r1
    refine hr.de g hj ?_ (g.mono q1 (ext_own r1 pO)) (k.later (e1.trans (ext_own r1 pO)))
    rw [hΓ]
    exact rf1.updOwn (hg s1) h1 ⟨p, vs1 ++ [w], rfl, upd_same, g3.app (.cons d1 .nil)⟩ rfl (fun b u hb h => by rw [upd_ne (fun z => hb (by simp [fp, z]))]; exact h) upd_tk
  · rw [if_neg hl] at q1; exact absurd q1 g.stuck
/-- from here on the owned list is data -/
theorem pb_fz {i : Nat} {sts : List Stmt} {mr : List D → BM S Tn Tl} (get : S → List D) (hg : ∀ s, (Γ s)[i]? = some (.own (.lst (get s)))) (hi : i ∉ jOf ρ) (hO : ∀ s, Has ρ (Γ s) s) (hr : ∀ l, PB X cs W ρ (fun s => (Γ s).set i (.dat (.lst l))) sts tr Γn Γl (mr l)) :
    PB X cs W ρ Γ sts tr Γn Γl (fun β s kr kn kb kc => mr (get s) β s kr kn kb kc) := by
  refine ⟨(hr []).ps, ?_⟩
  intro β fc G g hj s O F H σ D' kr kn kb kc r q k
  obtain ⟨p, vs, h1, h2, pO, r1, e1⟩ := r.rep.fz (hg s)
  exact (hr (get s)).de g hj ⟨r1, r.slots⟩ (g.mono q e1) (k.later e1)
end
end HD
set_option maxRecDepth 100000
set_option maxHeartbeats 4000000
namespace HD
open PySem PySem.Spec PyProof.Rows L2

/-! ### a def that captured its class -/
theorem cellsFrom_app : ∀ (names : List (Str × NameKind)) (n : Nat) (a b : List (Str × Addr)), cellsFrom n names (a ++ b) = cellsFrom n names a ++ b
  | [], _, _, _ => rfl
  | (x, k) :: r, n, a, b => by
    unfold cellsFrom
    split
    · exact cellsFrom_app r (n + 1) ((x, n) :: a) b
    · exact cellsFrom_app r n a b
theorem cellsFrom_mem : ∀ (names : List (Str × NameKind)) (n : Nat) (a : List (Str × Addr)) (x : Str) (c : Addr), (x, c) ∈ cellsFrom n names a → (x, c) ∈ a ∨ (x, NameKind.cell) ∈ names
  | [], _, _, _, _, h => .inl h
  | (y, k) :: r, n, a, x, c, h => by
    unfold cellsFrom at h
    split at h
    · rename_i hk
      rcases cellsFrom_mem r (n + 1) ((y, n) :: a) x c h with q | q
      · rcases List.mem_cons.mp q with e | q
        · cases e
          have : k = .cell := by simpa using hk
          subst this
          exact .inr (List.mem_cons_self ..)
        · exact .inl q
      · exact .inr (List.mem_cons_of_mem _ q)
    · rcases cellsFrom_mem r n a x c h with q | q
      · exact .inl q
      · exact .inr (List.mem_cons_of_mem _ q)
theorem lookup_app {l r : List (Str × Addr)} {x : Str} {c : Addr} (h : (l ++ r).lookup x = some c) : l.lookup x = some c ∨ (l.lookup x = none ∧ r.lookup x = some c) := by
  induction l with
  | nil => exact .inr ⟨rfl, h⟩
  | cons p l ih =>
    obtain ⟨y, d⟩ := p
    rw [List.cons_append, List.lookup_cons] at h
    rw [List.lookup_cons]
    cases e : x == y with
    | true => rw [e] at h; exact .inl h
    | false => rw [e] at h; exact ih h

abbrev clsName : Str := "__class__"
structure InCallS (s₀ : Shared) (L : Addr) (m : Str → Option Value) (cs : List (Str × Addr)) (cm : Str → Option Value) (s : Shared) : Prop where
  toInCall : InCall s₀ L m s
  cell : ∀ n c, cs.lookup n = some c → s.heap.IsCell c (cm n)
  apart : cs.Pairwise fun x y => x.2 ≠ y.2
  above : ∀ n c, (n, c) ∈ cs → n ≠ clsName → L < c
  neL : ∀ n c, (n, c) ∈ cs → c ≠ L
section
variable {s₀ s : Shared} {L : Addr} {m cm : Str → Option Value} {cs : List (Str × Addr)} {M : Model} {A : Around} {E : Value → Shared → Prop} {env : Env}
theorem stLS {n : Str} {v : Value} {Q : Unit → Shared → Prop} (x : InCallS s₀ env.locals m env.cells cm s) (hk : env.scope.kind = .function) (hl : env.kindOf n = some .local)
    (h : ∀ s', InCallS s₀ env.locals (fun y => if y = n then some v else m y) env.cells cm s' → Q () s') : wpAny M A (storeName env n v) Q E s := by
  refine wpAny_storeName_local hl x.toInCall.ns (fun h' hn' hs' => h _ ⟨⟨?_, hn', fun b o e => ?_, x.toInCall.fresh⟩, fun k c hc => ?_, x.apart, x.above, x.neL⟩) (by rw [hk]; rfl)
  · obtain ⟨h₁, tk, rfl⟩ := x.toInCall.same
    exact ⟨h', _, rfl⟩
  · exact hs'.extBut b o (Nat.ne_of_lt (Nat.lt_of_lt_of_le (Heap.lt_size e) x.toInCall.fresh)) (x.toInCall.keep b o e)
  · exact (x.cell k c hc).sameBut hs' (x.neL k c (mem_of_lookup hc))
theorem stCS {n : Str} {c : Addr} {v : Value} {Q : Unit → Shared → Prop} (x : InCallS s₀ env.locals m env.cells cm s) (hk : env.scope.kind = .function) (hl : env.kindOf n = some .cell) (hn : n ≠ clsName)
    (hc : env.cells.lookup n = some c)
    (h : ∀ s', InCallS s₀ env.locals m env.cells (fun y => if y = n then some v else cm y) s' → Q () s') : wpAny M A (storeName env n v) Q E s := by
  have hLc := x.above n c (mem_of_lookup hc) hn
  refine wpAny_storeName_cell hk hl hc (x.cell n c hc) fun h' hc' hs' => h _ ⟨⟨?_, x.toInCall.ns.sameBut hs' (Nat.ne_of_lt hLc), fun b o e => ?_, x.toInCall.fresh⟩, fun k c' hk' => ?_, x.apart, x.above, x.neL⟩
  · obtain ⟨h₁, tk, rfl⟩ := x.toInCall.same
    exact ⟨h', _, rfl⟩
  · exact hs'.extBut b o (Nat.ne_of_lt (Nat.lt_trans (Nat.lt_of_lt_of_le (Heap.lt_size e) x.toInCall.fresh) hLc)) (x.toInCall.keep b o e)
  · by_cases hkn : k = n
    · subst hkn
      rw [hc] at hk'; cases hk'
      simpa using hc'
    · rw [if_neg hkn]
      exact (x.cell k c' hk').sameBut hs' fun e => hkn (name_of_addr x.apart (mem_of_lookup hk') (e ▸ mem_of_lookup hc))
theorem bindParamsS (f : Str × Value → PUnit → Sem (ForInStep PUnit)) (hf : ∀ n v u, f (n, v) u = (do storeName env n v; pure (.yield ⟨⟩))) (hk : env.scope.kind = .function) :
    ∀ (binds : List (Str × Value)) (m cm : Str → Option Value) (s : Shared) (Q : PUnit → Shared → Prop), InCallS s₀ env.locals m env.cells cm s →
      (∀ x ∈ binds, env.kindOf x.1 = some .local ∨ (env.kindOf x.1 = some .cell ∧ x.1 ≠ clsName ∧ (env.cells.lookup x.1).isSome = true)) →
      (∀ s', InCallS s₀ env.locals (bindL env.kindOf binds m) env.cells (bindC env.kindOf binds cm) s' → Q ⟨⟩ s') → wpAny M A (forIn binds ⟨⟩ f) Q E s
  | [], m, cm, s, Q, x, _, h => by rw [List.forIn_nil]; exact wpAny_pure (h s x)
  | (n, v) :: r, m, cm, s, Q, x, hkind, h => by
    rw [List.forIn_cons, hf]
    have hr : ∀ y ∈ r, env.kindOf y.1 = some .local ∨ (env.kindOf y.1 = some .cell ∧ y.1 ≠ clsName ∧ (env.cells.lookup y.1).isSome = true) := fun y hy => hkind y (List.mem_cons_of_mem _ hy)
    rcases hkind (n, v) List.mem_cons_self with hl | ⟨hl, hn, hc⟩
    · refine wpAny_bind (wpAny_bind (stLS x hk hl fun s' x' => wpAny_pure (bindParamsS f hf hk r _ _ s' Q x' hr fun s'' x'' => h s'' ?_)))
      unfold bindL bindC; rw [if_pos hl, if_pos hl]; exact x''
    · obtain ⟨c, hc⟩ := Option.isSome_iff_exists.mp hc
      have hnl : ¬ env.kindOf n = some .local := by rw [hl]; decide
      refine wpAny_bind (wpAny_bind (stCS x hk hl hn hc fun s' x' => wpAny_pure (bindParamsS f hf hk r _ _ s' Q x' hr fun s'' x'' => h s'' ?_)))
      unfold bindL bindC; rw [if_neg hnl, if_neg hnl]; exact x''
end
section
variable {M : Model} {A : Around} {E : Value → Shared → Prop} {s : Shared}
/-- what the class's cell holds -/
def clsM (v : Value) : Str → Option Value := fun y => if y = clsName then some v else none
theorem newEnvS {scope : Scope} {globals : Addr} {binds : List (Str × Value)} {qual : Str} {func : Option Addr} {code : Value} {builtins cc : Addr} {dv : Value} {Q : Env → Shared → Prop}
    (hk : scope.kind = .function) (hno : (clsName, NameKind.cell) ∉ scope.names) (hcc : s.heap.IsCell cc (some dv))
    (hkind : ∀ x ∈ binds, scope.names.lookup x.1 = some .local ∨ (scope.names.lookup x.1 = some .cell ∧ x.1 ≠ clsName ∧ ((cellsFrom (s.heap.objs.size + 1) scope.names [(clsName, cc)]).lookup x.1).isSome = true))
    (hQ : ∀ env, env = newEnv scope s.heap.objs.size globals (cellsFrom (s.heap.objs.size + 1) scope.names [(clsName, cc)]) qual func code none builtins →
      ∀ s', InCallS s env.locals (bindL env.kindOf binds fun _ => none) env.cells (bindC env.kindOf binds (clsM dv)) s' → Q env s') :
    wpAny M A (newFunctionEnv scope globals [(clsName, cc)] binds qual func code none builtins) Q E s := by
  simp only [newFunctionEnv, Option.isSome_none, Bool.false_eq_true, if_false]
  refine wpAny_bind (wpAny_alloc ?_)
  refine wpAny_bind (wpAny_layCells _ (fun name kind cells => by cases hkc : kind == NameKind.cell <;> simp [hkc]) _ _ _ _ ?_)
  have ok := cellsFrom_ok scope.names (s.heap.push { cls := .type "frame", data := .dict #[] }) (s.heap.objs.size + 1) [] ⟨fun _ _ hm => (nomatch hm), List.Pairwise.nil⟩ (by rw [Heap.size_push]; exact Nat.le_refl _)
  rw [Heap.size_push] at ok
  rw [show ({ s with heap := s.heap.push { cls := .type "frame", data := .dict #[] } } : Shared).heap.objs.size = s.heap.objs.size + 1 from Heap.size_push ..]
  have ea : cellsFrom (s.heap.objs.size + 1) scope.names [(clsName, cc)] = cellsFrom (s.heap.objs.size + 1) scope.names [] ++ [(clsName, cc)] := cellsFrom_app _ _ [] _
  have hlt := hcc.lt
  have nocls : ∀ c, (clsName, c) ∉ cellsFrom (s.heap.objs.size + 1) scope.names [] := fun c hm => by
    rcases cellsFrom_mem _ _ _ _ _ hm with q | q
    · exact nomatch q
    · exact hno q
  have key : ∀ b o, s.heap.get? b = some o → (pushCells (s.heap.push { cls := .type "frame", data := .dict #[] }) scope.names).get? b = some o := fun b o e => pushCells_keeps _ _ b o (Heap.get?_push_of_some _ e)
  refine wpAny_bind (bindParamsS (s₀ := s) (env := newEnv scope s.heap.objs.size globals (cellsFrom (s.heap.objs.size + 1) scope.names [(clsName, cc)]) qual func code none builtins)
    _ (fun _ _ _ => rfl) hk binds (fun _ => none) (clsM dv) _ _
    ⟨⟨⟨_, _, rfl⟩, (Heap.Ns.new s.heap (.type "frame")).keeps (pushCells_keeps _ _), key, Nat.le_refl _⟩,
      fun n c hc => ?_, ?_, fun n c hm hn => ?_, fun n c hm => ?_⟩
    hkind fun s' x => wpAny_pure (hQ _ rfl s' x))
  · have hc : (cellsFrom (s.heap.objs.size + 1) scope.names [(clsName, cc)]).lookup n = some c := hc
    rw [ea] at hc
    rcases lookup_app hc with q | ⟨_, q⟩
    · have hm := mem_of_lookup q
      have hn : n ≠ clsName := fun z => nocls c (z ▸ hm)
      have := (ok.empty n c hm).1
      unfold clsM
      rw [if_neg hn]
      exact this
    · have hm := mem_of_lookup q
      simp only [List.mem_singleton, Prod.mk.injEq] at hm
      obtain ⟨rfl, rfl⟩ := hm
      unfold clsM
      rw [if_pos rfl]
      exact hcc.keeps key
  · show (cellsFrom (s.heap.objs.size + 1) scope.names [(clsName, cc)]).Pairwise _
    rw [ea]
    refine List.pairwise_append.mpr ⟨ok.apart, List.pairwise_singleton _ _, fun x hx y hy => ?_⟩
    simp only [List.mem_singleton] at hy
    subst hy
    have h1 : s.heap.objs.size + 1 ≤ x.2 := (ok.empty x.1 x.2 hx).2
    intro z
    have z : x.2 = cc := z
    rw [z] at h1
    exact absurd (Nat.lt_of_lt_of_le hlt (Nat.le_of_succ_le h1)) (Nat.lt_irrefl _)
  · have hm : (n, c) ∈ cellsFrom (s.heap.objs.size + 1) scope.names [(clsName, cc)] := hm
    rw [ea] at hm
    rcases List.mem_append.mp hm with q | q
    · exact (ok.empty n c q).2
    · simp only [List.mem_singleton, Prod.mk.injEq] at q
      exact absurd q.1 hn
  · have hm : (n, c) ∈ cellsFrom (s.heap.objs.size + 1) scope.names [(clsName, cc)] := hm
    rw [ea] at hm
    show c ≠ s.heap.objs.size
    rcases List.mem_append.mp hm with q | q
    · have h1 : s.heap.objs.size + 1 ≤ c := (ok.empty n c q).2
      exact Nat.ne_of_gt h1
    · simp only [List.mem_singleton, Prod.mk.injEq] at q
      rw [q.2]
      exact Nat.ne_of_lt hlt
end

/-! ### its context -/
abbrev envS (qual : Str) (scope : Scope) (L f : Addr) (cd : Value) (cc : Addr) : Env := PySem.W.envX qual scope L f cd (cellsFrom (L + 1) scope.names [(clsName, cc)])
structure ScopeS (N P : List Str) (sc : Scope) : Prop where
  kind : sc.kind = .function
  co : sc.isCoroutine = false
  gen : sc.isGenerator = false
  nd : N.Nodup
  pre : N.take P.length = P
  par : ∀ x ∈ P, sc.names.lookup x = some .local ∨ (sc.names.lookup x = some .cell ∧ x ≠ clsName)
  nofree : ∀ y ∈ sc.names, y.2 = .free → y.1 = clsName
  nocell : (clsName, NameKind.cell) ∉ sc.names
def cxS (CX : CXT) (P : Program) (w : World) (K : PySem.W.Frag) (mg : Str → Option Value) (base : Heap) (N : List Str) (qual : Str) (scope : Scope) (f : Addr) (cd : Value) (cc : Addr) (A : Around) (outer : List Env) (s : Shared) (H : Hp) (E : XK) : Cx where
  prog := P
  w := w
  K := K
  mg := mg
  base := base
  A := A.deeper (envS qual scope s.heap.objs.size f cd cc)
  N := N
  s_0 := s
  H_0 := H
  env := envS qual scope s.heap.objs.size f cd cc
  outer := outer
  stack := envS qual scope s.heap.objs.size f cd cc :: outer
  ex := []
  calm := true
  fn := fun x => x != clsName
  pn := []
  xe := fun e s' => wpAny (model P w) (A.deeper (envS qual scope s.heap.objs.size f cd cc)) (leaving (envS qual scope s.heap.objs.size f cd cc) e) (fun _ s'' => CX outer H s E e s'') (fun e' s'' => CX outer H s E e' s'') s'
theorem cellS_has {sc : Scope} {n : Nat} {x : Str} {acc : List (Str × Addr)} (h : sc.names.lookup x = some .cell ∨ (acc.lookup x).isSome = true) : ∃ c, (cellsFrom n sc.names acc).lookup x = some c :=
  Option.isSome_iff_exists.mp (PySem.W.cellsFrom_some sc.names n acc h)
section
variable {CX : CXT} {P : Program} {w : World} {K : PySem.W.Frag} {mg : Str → Option Value} {base : Heap} {N ps : List Str} {qual : Str} {scope : Scope} {f cc : Addr} {cd dv : Value} {A : Around} {outer : List Env} {s s1 : Shared} {H : Hp} {E : XK} {us : List Value} {vs : List V}
theorem inv_startS (S : ScopeS N ps scope) (hd : A.handled = none) (e0 : Env0 P w K mg base A outer s H) (hl : vs.length = ps.length) (r : Vals vs us) (hcl : H cc = none)
    (x : InCallS s s.heap.objs.size (bindL (envS qual scope s.heap.objs.size f cd cc).kindOf (ps.zip us) fun _ => none) (cellsFrom (s.heap.objs.size + 1) scope.names [(clsName, cc)]) (bindC (envS qual scope s.heap.objs.size f cd cc).kindOf (ps.zip us) (clsM dv)) s1) :
    Inv (cxS CX P w K mg base N qual scope f cd cc A outer s H E) [] (L2.start N vs) H s1 := by
  have hpl : ps.length ≤ N.length := by have := congrArg List.length S.pre; rw [List.length_take] at this; omega
  obtain ⟨h1, tk, rfl, hk⟩ := x.toInCall.done
  have noA : ∀ b : Addr, b ∉ (cxS CX P w K mg base N qual scope f cd cc A outer s H E).ex := fun b z => absurd (show b ∈ ([] : List Addr) from z) (by simp)
  refine ⟨⟨e0.mod, S.kind, rfl, rfl, Nat.le_refl _, fun y z c h1 h2 => ?_, fun y hy => ?_, fun y c hf h => ?_, fun _ => hd, Around.frames_deeper e0.frames, .inr ⟨rfl, rfl⟩, fun b z => absurd z (noA b), e0.bs, e0.bsz, fun b _ _ => noA b, fun b z => absurd z (noA b), e0.funs, e0.frf⟩,
    rfl, e0.bare, Un.kept hk, ⟨_, x.toInCall.ns, fun i y v h1 h2 h3 => ?_⟩, fun y c h => ⟨_, x.cell y c h⟩, e0.hok.fresh (Nat.le_refl _), fun y c h => ?_, fun p hp => absurd (show p ∈ ([] : List (Addr × Obj)) from hp) (by simp), e0.hok.kept hk, ?_⟩
  · exact name_of_addr x.apart (PySem.mem_of_lookup h1) (PySem.mem_of_lookup h2)
  · have hy : scope.names.lookup y = some .cell ∨ scope.names.lookup y = some .free := hy
    rcases hy with hy | hy
    · exact cellS_has (.inl hy)
    · have := S.nofree _ (PySem.mem_of_lookup hy) rfl
      refine cellS_has (.inr ?_)
      show (([(clsName, cc)] : List (Str × Addr)).lookup y).isSome = true
      rw [show y = clsName from this, List.lookup_cons]
      simp
  · exact Nat.le_of_lt (x.above y c (PySem.mem_of_lookup h) (by simpa [cxS] using hf))
  · have hi : i < vs.length := by
      unfold L2.start at h2
      by_cases hi : i < vs.length
      · exact hi
      · rw [List.getElem?_append_right (by simpa using hi)] at h2
        rw [List.getElem?_replicate] at h2
        split at h2 <;> cases h2
    have ha : vs[i]? = some v := by
      unfold L2.start at h2
      rw [List.getElem?_append_left (by simpa using hi), List.getElem?_map] at h2
      cases e : vs[i]? with
      | none => rw [e] at h2; cases h2
      | some a => rw [e] at h2; cases h2; rfl
    obtain ⟨u, hu, rv⟩ := r.get ha
    have hp : ps[i]? = some y := by
      rw [← S.pre, List.getElem?_take_of_lt (by omega)]; exact h1
    have ndP : ps.Nodup := by rw [← S.pre]; exact S.nd.sublist (List.take_sublist _ _)
    refine ⟨u, rv, ?_⟩
    rcases S.par y (List.mem_of_getElem? hp) with k | ⟨k, _⟩
    · exact .inl ⟨k, bindL_get ndP hp hu k⟩
    · obtain ⟨c, e⟩ := cellS_has (n := s.heap.objs.size + 1) (acc := [(clsName, cc)]) (.inl k)
      refine .inr ⟨.inl k, c, e, ?_⟩
      have q := x.cell y c e
      rw [bindC_get ndP hp hu (by show scope.names.lookup y ≠ _; rw [k]; decide)] at q
      exact q
  · by_cases hn : y = clsName
    · have e : (cellsFrom (s.heap.objs.size + 1) scope.names [(clsName, cc)]).lookup y = some c := h
      rw [show cellsFrom (s.heap.objs.size + 1) scope.names [(clsName, cc)] = cellsFrom (s.heap.objs.size + 1) scope.names [] ++ [(clsName, cc)] from cellsFrom_app _ _ [] _] at e
      rcases lookup_app e with q | ⟨_, q⟩
      · have hm := PySem.mem_of_lookup q
        rw [hn] at hm
        rcases cellsFrom_mem _ _ _ _ _ hm with z | z
        · exact nomatch z
        · exact absurd z S.nocell
      · have hm := PySem.mem_of_lookup q
        simp only [List.mem_singleton, Prod.mk.injEq] at hm
        rw [hm.2]
        exact hcl
    · exact e0.hok.fresh (Nat.le_of_lt (x.above y c (PySem.mem_of_lookup h) hn))
  · unfold L2.start
    show _ = N.length
    rw [List.length_append, List.length_map, List.length_replicate]
    omega
end

/-! ### blocks that know whose code they are -/
structure PSA (X : Cx) (c : Code) (st : List Stmt) (t : TS) : Prop where
  run : ∀ (pins : List (Addr × Obj)) (s : Shared) (σ : L2.St) (H : Hp) (D : Ends), Inv X pins σ H s → t D σ H → PySem.wpAt (model X.prog X.w) X.A c (execs st X.env) (SP X pins D) X.xe s
structure PS1A (X : Cx) (c : Code) (st : Stmt) (t : TS) : Prop where
  run : ∀ (pins : List (Addr × Obj)) (s : Shared) (σ : L2.St) (H : Hp) (D : Ends), Inv X pins σ H s → t D σ H → PySem.wpAt (model X.prog X.w) X.A c (exec st X.env) (SP X pins D) X.xe s
section
variable {X : Cx} {c : Code} {st : Stmt} {rest : List Stmt} {t u : TS}
theorem psa_of (h : PSs X rest t) : PSA X c rest t := ⟨fun pins s σ H D I q => wpAt_of_wpAny (h.run pins s σ H D I q)⟩
theorem ps1a_of (h : PS X st t) : PS1A X c st t := ⟨fun pins s σ H D I q => wpAt_of_wpAny (h.run pins s σ H D I q)⟩
theorem psa_cons (h1 : PS1A X c st t) (h2 : PSA X c rest u) : PSA X c (st :: rest) (tSeq t u) := by
  refine ⟨fun pins s σ H D I h => ?_⟩
  refine PySem.ks_wpAt_execs_cons (PySem.wpAt_mono (h1.run pins s σ H { D with nx := u D } I h) (fun f s1 q => ?_) fun _ _ x => x)
  cases f with
  | next =>
    obtain ⟨σ', H', I', q⟩ := q
    exact h2.run pins s1 σ' H' D I' q
  | ret v => exact q
  | brk => exact q
  | cont => exact q
end
end HD
namespace HD
open PySem PySem.Spec PyProof.Rows L2
/-- THE RULE: a def that captured its class, by its body -/
theorem fn_ofS {CX : CXT} {P : Program} {w : World} {K : PySem.W.Frag} {mg : Str → Option Value} {base : Heap} {k : Nat} {f cc : Addr} {name qual : Str} {params : Arguments} {body : List Stmt} {scope : Scope} {dV kV doc pm cdv ct oc cl dv : Value} {an od cld : Option Addr}
    {osl csl : Array (Option Value)} {N ps : List Str} {sp : Sp} (lk : K.lookup f = some ⟨oc, od, .func (PySem.W.fnX name qual params body scope [(clsName, cc)] dV kV doc pm an cdv ct), osl⟩) (hcd : PySem.W.codeIn K cdv qual = true)
    (hcell : K.lookup cc = some ⟨cl, cld, .cell (some dv), csl⟩) (S : ScopeS N ps scope) (len : ∀ vs H Q E, sp vs H Q E → vs.length = ps.length)
    (hbody : ∀ (A : Around) (outer : List Env) (s : Shared) (H : Hp) (vs : List V) (Q : VK) (E : XK), Room k (A.deeper (envS qual scope s.heap.objs.size f cdv cc)) → sp vs H Q E →
      ∃ t, PSA (cxS CX P w K mg base N qual scope f cdv cc A outer s H E) (.func body (envS qual scope s.heap.objs.size f cdv cc)) body t ∧ t { nx := fun _ H' => Q .non H', rt := Q } (L2.start N vs) H) :
    FnOk P w K mg base CX (k + 1) f (PySem.W.fnX name qual params body scope [(clsName, cc)] dV kV doc pm an cdv ct) ps sp := by
  refine ⟨len, fun A outer s H args us vs Q E hr e0 hb r hsp => ?_⟩
  have hl := len _ _ _ _ hsp
  have KX : K.In s.heap := e0.mod.kin.keeps fun b o e => (e0.bs b o e).1
  have lim : s.heap.NoLimit := e0.mod.nolimit.keeps fun b o e => (e0.bs b o e).1
  have hcc : s.heap.IsCell cc (some dv) := ⟨_, KX _ _ hcell, rfl⟩
  have hcl : H cc = none := (e0.bs _ _ (e0.mod.kin _ _ hcell)).2
  have hkind : ∀ y ∈ ps.zip us, scope.names.lookup y.1 = some .local ∨ (scope.names.lookup y.1 = some .cell ∧ y.1 ≠ clsName ∧ ((cellsFrom (s.heap.objs.size + 1) scope.names [(clsName, cc)]).lookup y.1).isSome = true) := fun ⟨n, v⟩ hy => by
    rcases S.par n (List.of_mem_zip hy).1 with q | ⟨q, q2⟩
    · exact .inl q
    · exact .inr ⟨q, q2, PySem.W.cellsFrom_some _ _ _ (.inl q)⟩
  refine codeAny_call_function hr.depth (KX _ _ lk) rfl S.co S.gen rfl (PySem.W.codeRec_of KX hcd) (hb _ _ _ _ ?_)
  refine newEnvS S.kind S.nocell hcc hkind fun env he s1 x => ?_
  subst he
  refine ⟨lim.keeps x.toInCall.keep, PySem.ks_codeAny_funcAt ?_⟩
  obtain ⟨t, ht, hq⟩ := hbody A outer s H vs Q E (hr.deeper _) hsp
  have I : Inv (cxS CX P w K mg base N qual scope f cdv cc A outer s H E) [] (L2.start N vs) H s1 := inv_startS S hr.hd e0 hl r hcl x
  refine PySem.wpAt_mono (ht.run [] s1 (L2.start N vs) H _ I hq) (fun fl s' hs => ?_) fun e s' hs => hs
  have fin : ∀ {σ' : L2.St} {H' : Hp} {v : V} {u : Value}, Inv (cxS CX P w K mg base N qual scope f cdv cc A outer s H E) [] σ' H' s' → RelV v u → Q v H' → CE outer P w H s Q u s' :=
    fun {σ' H' v u} J rv q => ⟨v, H', J.os, J.bare, J.base, J.hok, rv, q⟩
  cases fl with
  | ret u =>
    obtain ⟨v, σ', H', J, rv, q⟩ := hs
    exact fin J rv q
  | next =>
    obtain ⟨σ', H', J, q⟩ := hs
    exact fin (v := V.non) (u := Value.none) J rfl q
  | brk =>
    obtain ⟨_, _, _, q⟩ := hs
    exact False.elim q
  | cont =>
    obtain ⟨_, _, _, q⟩ := hs
    exact False.elim q

/-! ### super() -/
/-- what the text says of a def that says super() -/
structure SupC (X : Cx) (f cda cc D : Addr) (ar : Arg) : Prop where
  func : X.env.func = some f
  code : X.env.code = .ref cda
  fd : ∃ (oc : Value) (od : Option Addr) (fd : FuncData) (osl : Array (Option Value)), X.K.lookup f = some ⟨oc, od, .func fd, osl⟩ ∧ (fd.params.posonlyargs ++ fd.params.args).head? = some ar
  cdo : ∃ (ccl : Value) (cdd : Option Addr) (vs : Array Value) (ccs : Array (Option Value)) (file : Str) (tf : Tok), X.K.lookup cda = some ⟨ccl, cdd, .fields vs, ccs⟩ ∧ vs[2]? = some (.str file tf) ∧ ((X.prog.main.file : Str) == file) = true
  cell : ∃ (cl : Value) (cld : Option Addr) (csl : Array (Option Value)), X.K.lookup cc = some ⟨cl, cld, .cell (some (.ref D)), csl⟩
  cls : (PySem.W.clsIn X.K D).isSome = true
  loc : X.env.cells.lookup clsName = some cc
  sup : X.env.kindOf "super" = some .globalImplicit
  fre : X.env.kindOf clsName = some .free
  mg : X.mg "super" = none
  top : (X.prog.main.scope.names.lookup ("super" : Str)).isSome = false
section
variable {X : Cx} {pins : List (Addr × Obj)} {σ : L2.St} {H : Hp} {s : Shared} {f cda cc D a C : Addr} {ar : Arg} {i : Nat} {E : Value → Shared → Prop}
theorem boot_super : bootBuiltins "super" = some (.type "super") := by decide +kernel
/-- super() gives its object -/
theorem sup_node {body : List Stmt} {p0 p1 : Pos} {attr : Str} {whole : Sem Value} {Q : Value → Shared → Prop} {ox : Obj} {odx : Option Obj} (T : SupC X f cda cc D ar) (I : Inv X pins σ H s) (hn : X.N[i]? = some ar.arg) (hv : σ[i]? = some (some (.ref a))) (hL : Vis X.env.scope ar.arg)
    (J : PySem.W.InstAt s.heap a ox C odx) (hsub : PySem.W.mroIn X.K C (.ref D) = some true) (hat : (attr == ("__class__" : Str)) = false) (hcd : (ar.arg == ("__classdict__" : Str)) = false)
    (h : ∀ so h', Inv X pins σ H { s with heap := h' } → h'.get? so = some (PySem.W.ks_superObj D a C) → (∀ b o, s.heap.get? b = some o → h'.get? b = some o) → H so = none → so ∉ X.fs → so ≠ X.env.locals → Q (.ref so) { s with heap := h' }) :
    PySem.wpAt (model X.prog X.w) X.A (.func body X.env) (attributeBase (.Call (.Name "super" p0) [] [] p1) attr X.env whole) Q E s := by
  obtain ⟨oc, od, fd, osl, lf, hp⟩ := T.fd
  obtain ⟨ccl, cdd, vs, ccs, file, tf, lc, hvs, hfile⟩ := T.cdo
  obtain ⟨cl, cld, csl, lcell⟩ := T.cell
  have KX := I.kIn
  obtain ⟨cdD, hD⟩ := Option.isSome_iff_exists.mp T.cls
  obtain ⟨oD, hD1, hD2⟩ : ∃ oD, s.heap.get? D = some oD ∧ oD.data = .cls cdD := by
    unfold PySem.W.clsIn at hD
    split at hD
    · rename_i c d cd' sl ho
      cases hD
      exact ⟨_, KX _ _ ho, rfl⟩
    · cases hD
  refine PySem.ks_wpAt_super_base (env := X.env) T.sup T.fre hat T.func (KX _ _ lf) rfl hp T.code (KX _ _ lc) rfl hvs hfile T.top ?_
  obtain ⟨mb, hb, hbv⟩ := I.mod.blt
  refine PySem.W.ks_loadName_global I.ok.kind T.sup (PySem.Calls.loadGlobal_builtin (env := X.env) (by rw [I.ok.glob]; exact I.mod.glob.keeps I.bk) T.mg (by rw [I.ok.blt]; exact hb.keeps I.bk) ((hbv _ (by decide +kernel)).trans boot_super) ⟨rfl, ?_⟩)
  refine wpAny_loadName_free I.ok.kind T.fre T.loc ⟨_, KX _ _ lcell, rfl⟩ ?_
  obtain ⟨m, hns, hl⟩ := I.loc
  obtain ⟨u, ru, lk⟩ := hl i ar.arg _ hn hv hL
  obtain rfl : u = Value.ref a := ru
  have fin : wpAny (model X.prog X.w) X.A (isType (.ref D)) (fun b s₄ => b = true ∧ wpAny (model X.prog X.w) X.A (call (.type "super") [.ref D, .ref a]) Q E s₄) E s := by
    obtain ⟨hh, g, d, t, os⟩ := s
    refine PySem.ks_wpAny_isType_cls hD1 hD2 ⟨rfl, ?_⟩
    refine PySem.ks_wpAny_call_super hD1 hD2 J.at_ J.cls (fun c e => ?_) (PySem.W.looks_mroIn KX hsub) (fun h' e k => ?_)
    · have := J.no
      unfold PySem.W.notCls at this
      rw [e] at this
      exact Bool.noConfusion this
    · exact h hh.objs.size h' (I.kept (t' := t) k) e k (I.hok.fresh (Nat.le_refl _)) (I.nofs (Nat.le_refl _)) (Nat.ne_of_gt I.lt)
  rcases lk with ⟨k1, k2⟩ | ⟨k1, c, k2, k3⟩
  · exact wpAny_loadName_local I.ok.kind k1 hns k2 fin
  · rcases k1 with k1 | k1
    · exact wpAny_loadName_cell I.ok.kind k1 k2 k3 fin
    · exact wpAny_loadName_free I.ok.kind k1 k2 k3 fin hcd
end
end HD
set_option maxRecDepth 100000
set_option maxHeartbeats 4000000
namespace HD
open PySem PySem.Spec PyProof.Rows L2

/-! ### own exception classes over a built-in one -/
structure EB (B newId initId : String) (bmB : List Value) : Prop where
  F : ExcBaseFacts B newId initId bmB
  K : PySem.W.KxsFacts B initId
  S : PySem.StoreFacts B bmB "object.__setattr__" "object"
theorem eb_VE : EB "ValueError" "ValueError.__new__" "ValueError.__init__" [.type "ValueError", .type "Exception", .type "BaseException", .type "object"] := ⟨F.excBase_ValueError, PySem.W.kxs_ValueError, F.store_ValueError⟩
theorem eb_LE : EB "LookupError" "LookupError.__new__" "LookupError.__init__" [.type "LookupError", .type "Exception", .type "BaseException", .type "object"] := ⟨F.excBase_LookupError, PySem.W.kxs_LookupError, F.store_LookupError⟩
/-- what the text says of the class at C -/
structure EC (K : PySem.W.Frag) (C : Addr) (B newId initId : String) (bmB : List Value) : Prop where
  eb : EB B newId initId bmB
  q : PySem.W.excInitIn K C bmB newId = true
  ov : PySem.W.excOver K C bmB = true
  hd : PySem.W.hasDictIn K C = true
  sa : PySem.W.findIn K (.ref C) "__setattr__" = some (some (.builtin "object.__setattr__"))
  sup : PySem.W.ks_superIn K C C "__init__" = some (some (.builtin initId))
  subB : PySem.W.subIn K (.ref C) (.type B) = some true
  selfC : PySem.W.mroIn K C (.ref C) = some true
  tyC : PySem.W.typeIn K (.ref C) = some (.type "type")
  kC : PySem.W.keepIn K (.ref C) = true
  exC : PySem.W.subIn K (.ref C) (.type "BaseException") = some true
  op : PySem.W.nsIn K PySem.cStatics "thirdparty.any" = some none

section
variable {prog : Program} {w : World} {A : Around} {E : Value → Shared → Prop} {s : Shared} {K : PySem.W.Frag} {C x dx : Addr} {B newId initId : String} {bmB : List Value} {R : Result → Shared → Prop} {hp : Heap} {g : Array GenState} {d : Drawn} {t : Nat} {os : OsState} {name : Str} {tk : Tok} {v : Value} {fv : Array Value} {m0 : Str → Option Value} {nl : List Str}
open Builtin Builtin.ObjectAttr
theorem ec_new (T : EC K C B newId initId bmB) (X : K.In hp) (hx : hp.get? x = some { cls := .ref C, data := .fields fv }) (ht : PySem.W.takerIn K C name = some none)
    (hq : ∀ h' tk' dx, (∀ b o, b ≠ x → hp.get? b = some o → h'.get? b = some o) → hp.objs.size ≤ dx → dx ≠ x → h'.get? x = some { cls := .ref C, dict := some dx, data := .fields fv } →
      h'.Ns1 dx (fun y => if y = name then some v else none) → R (.ok (.ret .none)) ⟨h', g, d, tk', os⟩) :
    codeAny (model prog w) A (.call (.builtin "object.__setattr__") ⟨[.ref x, .str name tk, v], []⟩) R ⟨hp, g, d, t, os⟩ := by
  have I : PySem.W.InstAt hp x { cls := .ref C, data := .fields fv } C none := ⟨hx, rfl, rfl, trivial⟩
  have hxs : x ≠ hp.objs.size := Nat.ne_of_lt (Heap.lt_size hx)
  obtain ⟨cd, hcd, hh⟩ := PySem.W.any_some T.hd
  have hcls : PySem.W.Looks (model prog w) hp (classData C) cd := PySem.W.looks_clsIn X hcd
  refine PySem.W.osa_openX (s := ⟨hp, g, d, t, os⟩) (od := none) T.eb.S X I T.ov ht fun b => ?_
  obtain ⟨nm, bs, mro, ns, qn, hd, sn, sb, ab, col, del⟩ := cd
  dsimp only at hh
  subst hh
  unfold storeInOwnDict ownDictForStores
  repeat (first | with_reducible refine HandSPX.store_in_new ?_ ?_ | with_reducible refine wpAny_loadPart_at hx ?_ | with_reducible refine hcls.at ?_ | wp_step)
  · exact ⟨_, #[], _, (Heap.get?_update_ne _ _ _ _ hxs.symm).trans (Heap.get?_push_at rfl rfl), rfl, fun e he => absurd he (by simp), fun _ => rfl⟩
  · intro h' tk' hn' hs
    have hx₁ : (hp.push { cls := .type "dict", data := .dict #[] }).get? x = some { cls := .ref C, data := .fields fv } := Heap.get?_push_of_some _ hx
    refine hq h' tk' hp.objs.size (fun b o hb ho => ?_) (Nat.le_refl _) hxs.symm ?_ hn'
    · exact (hs.2 b (Nat.ne_of_lt (Heap.lt_size ho))).trans ((Heap.get?_update_ne _ _ _ _ hb).trans (Heap.get?_push_of_some _ ho))
    · exact (hs.2 x hxs).trans (Heap.get?_update_self _ hx₁ rfl)
theorem ec_old (T : EC K C B newId initId bmB) (X : K.In hp) (hx : hp.get? x = some { cls := .ref C, dict := some dx, data := .fields fv }) (hns : hp.Ns1 dx m0) (hw : Within m0 nl) (hz : nl.length ≤ 1000) (ht : PySem.W.takerIn K C name = some none)
    (hq : ∀ h' tk', (∀ b o, b ≠ dx → hp.get? b = some o → h'.get? b = some o) → h'.Ns1 dx (fun y => if y = name then some v else m0 y) → R (.ok (.ret .none)) ⟨h', g, d, tk', os⟩) :
    codeAny (model prog w) A (.call (.builtin "object.__setattr__") ⟨[.ref x, .str name tk, v], []⟩) R ⟨hp, g, d, t, os⟩ := by
  obtain ⟨oD, esD, epD, hoD, hdD, _⟩ := hns.count hw
  have I : PySem.W.InstAt hp x { cls := .ref C, dict := some dx, data := .fields fv } C (some oD) := ⟨hx, rfl, rfl, hoD⟩
  obtain ⟨cd, hcd, hh⟩ := PySem.W.any_some T.hd
  have hcls : PySem.W.Looks (model prog w) hp (classData C) cd := PySem.W.looks_clsIn X hcd
  refine PySem.W.osa_openX (s := ⟨hp, g, d, t, os⟩) (od := some oD) T.eb.S X I T.ov ht fun b => ?_
  obtain ⟨nm, bs, mro, ns, qn, hd, sn, sb, ab, col, del⟩ := cd
  dsimp only at hh
  subst hh
  unfold storeInOwnDict ownDictForStores
  repeat (first | with_reducible refine PySem.OEX.store_in_old hns hw hz ?_ | with_reducible refine wpAny_loadPart_at hx ?_ | with_reducible refine hcls.at ?_ | wp_step)
  intro h' tk' hn' hs
  exact hq h' tk' (fun b o hb ho => (hs.2 b hb).trans ho) hn'
end
section
variable {X : Cx} {pins : List (Addr × Obj)} {σ : L2.St} {H : Hp} {s : Shared} {a C dx : Addr} {f : Str} {y : V} {u : Value} {fs : List (Str × V)} {Q : Unit → Shared → Prop} {E : Value → Shared → Prop} {A : Around} {B newId initId : String} {bmB : List Value}
/-- self.f = y, the first one -/
theorem est_new (T : EC X.K C B newId initId bmB) (I : Inv X pins σ H s) (e : H a = some (exo a C none)) (hno : PySem.W.takerIn X.K C f = some none) (ry : RelV y u)
    (h : ∀ dx s', H dx = none → dx ≠ a → Inv X pins σ (upd (upd H dx (exd dx [(f, y)])) a (exo a C (some dx))) s' → Q () s') : wpAny (model X.prog X.w) A (setAttr (.ref a) f u) Q E s := by
  obtain ⟨t1, ho⟩ := exo_at I.hok e
  obtain ⟨hp, g, d, t, os⟩ := s
  refine PySem.W.set_plain I.kIn (ox := { cls := .ref C, dict := none, data := .fields #[.ref t1, .none, .none, .none, .bool false, .none] }) (od := none) ⟨ho, rfl, rfl, trivial⟩ T.sa ?_
  refine ec_new T I.kIn ho hno (fun h' tk' dx k dn dne hx hn => ?_)
  have hnd : H dx = none := I.hok.fresh dn
  have nd : ∀ {b : Addr} {o : Obj}, hp.get? b = some o → b ≠ dx := fun {b o} q => Nat.ne_of_lt (Nat.lt_of_lt_of_le (Heap.lt_size q) dn)
  have na : ∀ {b : Addr}, H b = none → b ≠ a := fun {b} n z => by
    rw [z, e] at n
    cases n
  have Un1 : Un X.fs [] H (upd (upd H dx (exd dx [(f, y)])) a (exo a C (some dx))) hp h' := {
    keep := fun b o q n _ _ => k b o (na n) q
    slot := fun b o q n _ _ => ⟨o.slots, k b o (na n) q⟩
    free := fun b o q n _ => by rw [upd_ne (na n), upd_ne (nd q)]; exact n
    there := fun b o q _ => by
      by_cases hb : b = a
      · exact ⟨_, by rw [hb]; exact hx⟩
      · exact ⟨o, k b o hb q⟩
    tups := fun b xs q => by rw [upd_ne (at_ne e q exo_tup), upd_ne (ne_of_none q hnd)]; exact q
    frzs := fun b o v q => by rw [upd_ne (at_ne e q exo_frz), upd_ne (ne_of_none q hnd)]; exact q
    tbls := fun b ps q => ⟨#[], by rw [upd_ne (at_ne e q exo_tbl), upd_ne (ne_of_none q hnd), q]; simp⟩ }
  refine h dx _ hnd dne (I.un (t' := tk') Un1 fun b o q => ?_)
  by_cases hb : b = a
  · subst hb
    rw [upd_same] at q
    cases q
    exact exo_ok hx
  · rw [upd_ne hb] at q
    by_cases hd : b = dx
    · subst hd
      rw [upd_same] at q
      cases q
      exact exd_ok hn (relO_put (fs := []) ry fun g => True.intro)
    · rw [upd_ne hd] at q
      exact (I.hok b o q).stay (fun c v hc z => k c v (by
          rcases hc with hc | hc
          · rw [hc]
            exact hb
          · exact at_ne e hc exo_own) z)
        (fun c hc => by rw [upd_ne (at_ne e hc exo_own), upd_ne (ne_of_none hc hnd)]; exact hc) (fun c xs hc => by rw [upd_ne (at_ne e hc exo_tup), upd_ne (ne_of_none hc hnd)]; exact hc)
/-- self.f = y, a further one -/
theorem est_old (T : EC X.K C B newId initId bmB) (I : Inv X pins σ H s) (e : H a = some (exo a C (some dx))) (ed : H dx = some (exd dx fs)) (hl : fs.length ≤ 900) (hno : PySem.W.takerIn X.K C f = some none) (ry : RelV y u)
    (h : ∀ s', Inv X pins σ (upd H dx (exd dx ((f, y) :: fs))) s' → Q () s') : wpAny (model X.prog X.w) A (setAttr (.ref a) f u) Q E s := by
  obtain ⟨t1, ho⟩ := exo_at I.hok e
  obtain ⟨mA, hns, rel⟩ := exd_at I.hok ed
  have hw := within_of rel
  obtain ⟨hp, g, d, t, os⟩ := s
  obtain ⟨oD, _, _, hoD, _, _⟩ := hns.count hw
  refine PySem.W.set_plain I.kIn (ox := { cls := .ref C, dict := some dx, data := .fields #[.ref t1, .none, .none, .none, .bool false, .none] }) (od := some oD) ⟨ho, rfl, rfl, hoD⟩ T.sa ?_
  refine ec_old T I.kIn ho hns hw (by rw [List.length_map]; omega) hno (fun h' tk' k hn => ?_)
  have hd : ∃ o, h'.get? dx = some o := by
    obtain ⟨o, _, _, e', _⟩ := hn
    exact ⟨o, e'⟩
  exact h _ (I.write (t' := tk') (x := dx) (e := dx) (o := exd dx ((f, y) :: fs)) (by rw [ed]; exact True.intro) (.inl rfl) k hd (exd_ok hn (relO_put ry rel)))
end

/-! ### self.f = e, in an exception that is being made -/
def tEst (K : PySem.W.Frag) (C : Addr) (f : Str) (to te : TE) : TS := fun D σ H => te σ H fun y H1 => to σ H1 fun x H2 => ∃ a : Addr, x = .ref a ∧
  ((H2 a = some (exo a C none) ∧ ∀ dx, H2 dx = none → dx ≠ a → D.nx σ (upd (upd H2 dx (exd dx [(f, y)])) a (exo a C (some dx)))) ∨
    ∃ (dx : Addr) (fs : List (Str × V)), H2 a = some (exo a C (some dx)) ∧ H2 dx = some (exd dx fs) ∧ fs.length ≤ 900 ∧ D.nx σ (upd H2 dx (exd dx ((f, y) :: fs))))
section
variable {X : Cx} {o e : Expr} {es : List Expr} {to te : TE} {ta : TA} {f : Str} {p p' p1 p2 pos : Pos} {C : Addr} {B newId initId : String} {bmB : List Value}
theorem ps_est (T : EC X.K C B newId initId bmB) (hno : PySem.W.takerIn X.K C f = some none) (ho : PE X o to) (he : PE X e te) (hs : swapsWith e (some (.Attribute o f p')) pos.line X.env = pure false := by rfl) : PS X (.Assign [.Attribute o f p'] e pos) (tEst X.K C f to te) := by
  refine ⟨fun pins s σ H D I h => ?_⟩
  refine plainObj_wpAny_Assign_Attribute (thn (he.run pins s σ H _ I h) fun v s1 ⟨y, H1, I1, r1, q1⟩ => thn (ho.run pins s1 σ H1 _ I1 q1) fun u s2 ⟨x, H2, I2, r2, a, ex, q⟩ => ?_) hs
  subst ex
  obtain rfl : u = Value.ref a := r2
  rcases q with ⟨ea, q⟩ | ⟨dx, fs, ea, ed, hl, q⟩
  · exact est_new T I2 ea hno r1 fun dx s' n ne J => ⟨σ, _, J, q dx n ne⟩
  · exact est_old T I2 ea ed hl hno r1 fun s' J => ⟨σ, _, J, q⟩
end
end HD
set_option maxRecDepth 100000
set_option maxHeartbeats 4000000
namespace HD
open PySem PySem.Spec PyProof.Rows L2

section
variable {X : Cx} {pins : List (Addr × Obj)} {σ : L2.St} {H : Hp} {s : Shared} {f cda cc a C u : Addr} {ar : Arg} {i : Nat} {E : Value → Shared → Prop} {A : Around} {B newId initId : String} {bmB : List Value}
/-- the bound __init__, called: nothing of it is told -/
theorem sup_call {us : List Value} {Q : Value → Shared → Prop} (T : EC X.K C B newId initId bmB) (I : Inv X pins σ H s) (e : H a = some (exo a C none)) (hu : s.heap.get? u = some (PySem.W.kxs_mw initId a)) (hl : us.length ≤ sizeLine) (h : ∀ s', Inv X pins σ H s' → Q .none s') :
    wpAny (model X.prog X.w) A (call (.ref u) us) Q E s := by
  obtain ⟨nm, N', qn, bs, bm, hdct, sn, sub, ab, col, dd, k0, k1, k2, k3, k5, hC, hT⟩ := PySem.W.excInit_of I.kIn T.q
  obtain ⟨t1, ho⟩ := exo_at I.hok e
  obtain ⟨hh, g, d, tk, os⟩ := s
  refine wpAny_call (codeAny_of_tree ?_)
  show wpAny _ A.in1 (callAny (.ref u) ⟨us, []⟩) _ _ _
  simp only [callAny]
  refine wpAny_bind (wpAny_load hu ?_)
  simp only [PySem.W.kxs_mw, show (Value.type "method-wrapper" == Value.type "method" || Value.type "method-wrapper" == Value.type "builtin_function_or_method" || Value.type "method-wrapper" == Value.type "method-wrapper") = true by decide, if_true]
  refine PySem.W.KFB.if_so (by decide) ?_
  refine wpAny_bind (PySem.W.check_bound_init T.eb.F.toExcCallFacts hC ho rfl ?_)
  refine wpAny_bind (wpAny_pure (wpAny_pure ?_))
  refine ⟨plainId_quiet T.eb.F.init.plain _, codeAny_builtin T.eb.F.initEntry ?_⟩
  refine PySem.W.exc_init_tree (cls := .ref C) (t0 := t1) (dv := none) (c2 := .none) (c3 := .none) (b4 := .bool false) ho hl fun h' k hx _ => ?_
  have J := I.write (t' := tk) (x := a) (e := a) (o := exo a C none) (by rw [e]; exact True.intro) (.inl rfl) k ⟨_, hx⟩ (exo_ok hx)
  have eu : upd H a (exo a C none) = H := by
    funext b
    by_cases hb : b = a
    · rw [hb, upd_same, e]
    · rw [upd_ne hb]
  rw [eu] at J
  exact h _ J
/-- super().__init__(e, ..) in an exception's own __init__ -/
def tSupE (C : Addr) (i : Nat) (ta : TA) : TS := fun D σ H => ∃ a : Addr, σ[i]? = some (some (.ref a)) ∧ H a = some (exo a C none) ∧ ta σ H fun vs H1 => vs.length ≤ 1000 ∧ H1 a = some (exo a C none) ∧ D.nx σ H1
theorem ps_supE {e : Expr} {es : List Expr} {ta : TA} {body : List Stmt} {p0 p1 p2 p3 p4 : Pos} {pl : Sem Bool} (T : EC X.K C B newId initId bmB) (Z : SupC X f cda cc C ar) (hn : X.N[i]? = some ar.arg) (hL : Vis X.env.scope ar.arg) (ha : PA X (e :: es) ta) (hcd : (ar.arg == ("__classdict__" : Str)) = false)
    (hs : swapsWith (.Call (.Attribute (.Call (.Name "super" p0) [] [] p1) "__init__" p2) (e :: es) [] p3) none p4.line X.env = pure false := by rfl)
    (he : eval (.Call (.Attribute (.Call (.Name "super" p0) [] [] p1) "__init__" p2) (e :: es) [] p3) X.env = (do
      let ov ← attributeBase (.Call (.Name "super" p0) [] [] p1) "__init__" X.env (eval (.Call (.Name "super" p0) [] [] p1) X.env)
      standAt p2.atName
      let (f, first) ← holding [ov] (getMethod ov "__init__" pl)
      callWith p3 f first (backTo p3 (starEach (e :: es) X.env)) []) := by rfl)
    (hse : starEach (e :: es) X.env = (false, eval e X.env) :: starEach es X.env := by rfl) (hpl : (backTo p3 (starEach es X.env)).any (·.1) = false := by rfl) :
    PS1A X (.func body X.env) (.Expr (.Call (.Attribute (.Call (.Name "super" p0) [] [] p1) "__init__" p2) (e :: es) [] p3) p4) (tSupE C i ta) := by
  refine ⟨fun pins s σ H D I h => ?_⟩
  obtain ⟨a, hv, ea, q⟩ := h
  obtain ⟨t1, ho⟩ := exo_at I.hok ea
  have J : PySem.W.InstAt s.heap a { cls := .ref C, dict := none, data := .fields #[.ref t1, .none, .none, .none, .bool false, .none] } C none := ⟨ho, rfl, rfl, trivial⟩
  refine PySem.ks_wpAt_Expr_any (PySem.ks_wpAt_MethodCall (pl := pl) (sup_node Z I hn hv hL J T.selfC (by decide) hcd fun so h1 I1 hso k1 n1 n2 n3 => ?_) he) I.quiet hs
  have X1 := I1.kIn
  have J1 : PySem.W.InstAt h1 a { cls := .ref C, dict := none, data := .fields #[.ref t1, .none, .none, .none, .bool false, .none] } C none := ⟨k1 _ _ ho, rfl, rfl, trivial⟩
  have hI : PySem.W.Looks (model X.prog X.w) h1 (isInstance (.ref a) (.type B)) true := J1.type.andThen (PySem.W.looks_subIn X1 T.subB)
  cases hc : PySem.W.clsIn X.K C with
  | none => have hm := T.sup; unfold PySem.W.ks_superIn at hm; rw [hc] at hm; cases hm
  | some cd =>
  have hm := T.sup
  unfold PySem.W.ks_superIn at hm
  rw [hc] at hm
  obtain ⟨hh, g, d, t, os⟩ := s
  refine PySem.W.kxs_getMethod T.eb.K hso (PySem.W.looks_opaque X1 T.op) (l₀ := cd.mro) (fun A Q E s k q => wpAny_bind ((PySem.W.looks_clsIn X1 hc) A _ E s k (wpAny_pure q))) rfl X1 hm hI (PySem.W.ks_ne X1 J1 hc) (by decide) ?_
  have kk : ∀ b o, h1.get? b = some o → (h1.push (PySem.W.kxs_mw initId a)).get? b = some o := fun b o e => Heap.get?_push_of_some _ e
  have I2 := I1.kept (t' := t + 1) kk
  have hu : (h1.push (PySem.W.kxs_mw initId a)).get? h1.objs.size = some (PySem.W.kxs_mw initId a) := Heap.get?_push_size _ rfl
  have I3 : Inv X ((h1.objs.size, PySem.W.kxs_mw initId a) :: pins) σ H { heap := h1.push (PySem.W.kxs_mw initId a), gens := g, drawn := d, toks := t + 1, os := os } := I2.pins_of fun p hp => by
    rcases List.mem_cons.mp hp with rfl | hp
    · exact ⟨hu, I1.hok.fresh (Nat.le_refl _), Nat.ne_of_gt I1.lt, I1.nofs (Nat.le_refl _), fun v z => nomatch z⟩
    · exact I2.pin p (List.mem_append_right _ hp)
  show wpAny (model X.prog X.w) X.A (callWith p3 (.ref h1.objs.size) [] (backTo p3 (starEach (e :: es) X.env)) []) _ _ _
  have run := thn (ha.run p3 _ _ σ H _ I3 q) (Q' := fun us s4 => PySem.W.KxsAt initId h1.objs.size a s4.heap ∧ wpAny (model X.prog X.w) X.A (call (.ref h1.objs.size) ([] ++ us)) (fun _ => SP X pins D .next) X.xe s4) fun us s4 ⟨vs, H4, I4, r4, hl4, e4, q4⟩ => by
    have hu4 := (I4.pin (h1.objs.size, PySem.W.kxs_mw initId a) (List.mem_append_right _ List.mem_cons_self)).1
    refine ⟨hu4, sup_call T I4 e4 hu4 (by show us.length ≤ sizeLine; rw [← Paired.length r4, sizeLine_eq]; omega) fun s5 I5 => ?_⟩
    exact ⟨σ, H4, I5.pins_of fun p hp => I5.pin p (List.mem_append_right _ (List.mem_cons_of_mem _ hp)), q4⟩
  rw [hse] at run ⊢
  refine PySem.W.kxs_callWith (i := initId) (x := a) (by show (false || (backTo p3 (starEach es X.env)).any (·.1)) = false; rw [hpl]; rfl) ?_
  exact PySem.Calls.evalArgs_plain run
end
end HD
set_option maxRecDepth 100000
set_option maxHeartbeats 4000000
namespace HD
open PySem PySem.Spec PyProof.Rows L2 PySem.StrLaws

/-! ### an exception that is being made, as data -/
structure EM (K : PySem.W.Frag) (cs : Cs) (C a : Addr) (F0 H0 F H : Hp) (ns : List Str) (ds : List D) : Prop where
  g : Same H0 H
  sF : Same F0 F
  sub : Same F H
  nF : ∀ b, H0 b ≠ none → F0 b = none → F b = none
  a0 : H0 a = none
  Fa : F a = none
  st : (ns = [] ∧ ds = [] ∧ H a = some (exo a C none)) ∨ ∃ (d : Addr) (fs : List (Str × V)) (vs : List V), H a = some (exo a C (some d)) ∧ H d = some (exd d fs) ∧ F d = none ∧ H0 d = none ∧ d ≠ a ∧ ns ≠ [] ∧ fs.length = ns.length ∧ vs.length = ns.length ∧ (∀ (i : Nat) (n : Str) (v : V), ns[i]? = some n → vs[i]? = some v → fs.lookup n = some v) ∧ (∀ n, n ∉ ns → fs.lookup n = none) ∧ DVs K cs F vs ds
section
variable {K : PySem.W.Frag} {cs : Cs} {C a : Addr} {F0 H0 F H F' H' : Hp} {ns : List Str} {ds : List D} {c : Nat}
theorem EM.ext (m : EM K cs C a F0 H0 F H ns ds) (e : Ext [] F H [] F' H') (sub : Same F' H') : EM K cs C a F0 H0 F' H' ns ds := by
  have kp : ∀ b o, H b = some o → H' b = some o := fun b o h => e.sH b o h (by simp)
  have nf : ∀ b, H b ≠ none → F b = none → F' b = none := fun b h1 h2 => e.nF b h1 h2 (by simp)
  have t0 : ∀ b, H0 b ≠ none → H b ≠ none := fun b h => by
    cases z : H0 b with
    | none => exact absurd z h
    | some o => rw [m.g b o z]; simp
  refine ⟨fun b o h => kp b o (m.g b o h), m.sF.trans e.sF, sub, fun b h1 h2 => nf b (t0 b h1) (m.nF b h1 h2), m.a0, ?_, ?_⟩
  · refine nf a ?_ m.Fa
    rcases m.st with ⟨_, _, h⟩ | ⟨d, fs, vs, h, _⟩
    · rw [h]; simp
    · rw [h]; simp
  · rcases m.st with ⟨h1, h2, h3⟩ | ⟨d, fs, vs, h1, h2, h3, h4, h5, h6, h7, h8, h9, h10, h11⟩
    · exact .inl ⟨h1, h2, kp _ _ h3⟩
    · exact .inr ⟨d, fs, vs, kp _ _ h1, kp _ _ h2, nf d (by rw [h2]; simp) h3, h4, h5, h6, h7, h8, h9, h10, h11.mono e.sF⟩
theorem getc {α : Type} {l : List α} {x y : α} {i : Nat} (h : (l ++ [x])[i]? = some y) : (i < l.length ∧ l[i]? = some y) ∨ (i = l.length ∧ x = y) := by
  by_cases hi : i < l.length
  · rw [List.getElem?_append_left hi] at h; exact .inl ⟨hi, h⟩
  · rw [List.getElem?_append_right (by omega)] at h
    right
    cases z : i - l.length with
    | zero => rw [z] at h; simp at h; exact ⟨by omega, h⟩
    | succ k => rw [z] at h; simp at h
/-- one more field -/
theorem EM.put {f : Str} {v : V} {d : D} (m : EM K cs C a F0 H0 F H ns ds) (hf : f ∉ ns) (hd : DV K cs F v d) :
    (H a = some (exo a C none) ∧ ∀ dx, H dx = none → dx ≠ a → EM K cs C a F0 H0 F (upd (upd H dx (exd dx [(f, v)])) a (exo a C (some dx))) (ns ++ [f]) (ds ++ [d])) ∨
    ∃ (dx : Addr) (fs : List (Str × V)), H a = some (exo a C (some dx)) ∧ H dx = some (exd dx fs) ∧ fs.length = ns.length ∧ EM K cs C a F0 H0 F (upd H dx (exd dx ((f, v) :: fs))) (ns ++ [f]) (ds ++ [d]) := by
  rcases m.st with ⟨h1, h2, h3⟩ | ⟨dx, fs, vs, h1, h2, h3, h4, h5, h6, h7, h8, h9, h10, h11⟩
  · left
    subst h1 h2
    refine ⟨h3, fun dx hx ne => ?_⟩
    have n1 : ∀ {b o}, H b = some o → b ≠ a → (upd (upd H dx (exd dx [(f, v)])) a (exo a C (some dx))) b = some o := fun {b o} h hb => by rw [upd_ne hb, upd_ne (ne_of_none h hx)]; exact h
    have na : ∀ {b o}, H0 b = some o → b ≠ a := fun {b o} h => ne_of_none h m.a0
    have hFx : F dx = none := m.sub.free hx
    have h0x : H0 dx = none := m.g.free hx
    refine ⟨fun b o h => n1 (m.g b o h) (na h), m.sF, fun b o h => n1 (m.sub b o h) (ne_of_none h m.Fa), m.nF, m.a0, m.Fa, .inr ⟨dx, [(f, v)], [v], upd_same, by rw [upd_ne ne, upd_same], hFx, h0x, ne, by simp, rfl, rfl, fun i n w e1 e2 => ?_, fun n hn => ?_, .cons hd .nil⟩⟩
    · cases i with
      | zero => simp at e1 e2; subst e1; subst e2; simp [List.lookup]
      | succ i => simp at e1
    · have : n ≠ f := by simpa using hn
      have : (n == f) = false := by simpa using this
      simp [List.lookup, this]
  · right
    refine ⟨dx, fs, h1, h2, h7, ?_⟩
    have n1 : ∀ {b o}, H b = some o → b ≠ dx → (upd H dx (exd dx ((f, v) :: fs))) b = some o := fun {b o} h hb => by rw [upd_ne hb]; exact h
    refine ⟨fun b o h => n1 (m.g b o h) (ne_of_none h h4), m.sF, fun b o h => n1 (m.sub b o h) (ne_of_none h h3), m.nF, m.a0, m.Fa, .inr ⟨dx, (f, v) :: fs, vs ++ [v], n1 h1 h5.symm, upd_same, h3, h4, h5, by simp, by simp [h7], by simp [h8], fun i n w e1 e2 => ?_, fun n hn => ?_, h11.app (.cons hd .nil)⟩⟩
    · rcases getc e1 with ⟨hi, e1⟩ | ⟨hi, e1⟩
      · rcases getc e2 with ⟨_, e2⟩ | ⟨hi', _⟩
        · have : n ≠ f := fun z => hf (z ▸ List.mem_of_getElem? e1)
          have : (n == f) = false := by simpa using this
          simp only [List.lookup_cons, this]
          exact h9 i n w e1 e2
        · omega
      · rcases getc e2 with ⟨hi', _⟩ | ⟨_, e2⟩
        · omega
        · subst e1 e2
          simp [List.lookup]
    · have h1 : n ∉ ns ∧ n ≠ f := by simpa using hn
      have : (n == f) = false := by simpa using h1.2
      simp only [List.lookup_cons, this]
      exact h10 n h1.1
/-- it is made: frozen from now on -/
theorem EM.fin (m : EM K cs C a F0 H0 F H ns ds) (hC : (cs c).1 = C) (hn : (cs c).2 = ns) : ∃ F', Grow F0 H0 F' H ∧ DV K cs F' (.ref a) (.exc c ds) := by
  subst hC hn
  rcases m.st with ⟨h1, h2, h3⟩ | ⟨dx, fs, vs, h1, h2, h3, h4, h5, h6, h7, h8, h9, h10, h11⟩
  · subst h2
    have s1 : Same F (upd F a (exo a (cs c).1 none)) := fun b o h => by rw [upd_ne (ne_of_none h m.Fa)]; exact h
    refine ⟨upd F a (exo a (cs c).1 none), ⟨m.sF.trans s1, m.g, fun b o h => ?_, fun b h4 h5 => ?_⟩, .exc upd_same (.inl ⟨rfl, h1⟩) (by rw [h1]; rfl) .nil⟩
    · by_cases hb : b = a
      · subst hb; rw [upd_same] at h; rw [h3]; exact h
      · rw [upd_ne hb] at h; exact m.sub b o h
    · have : b ≠ a := fun z => h4 (by rw [z]; exact m.a0)
      rw [upd_ne this]; exact m.nF b h4 h5
  · have s1 : Same F (upd (upd F dx (exd dx fs)) a (exo a (cs c).1 (some dx))) := fun b o h => by rw [upd_ne (ne_of_none h m.Fa), upd_ne (ne_of_none h h3)]; exact h
    refine ⟨upd (upd F dx (exd dx fs)) a (exo a (cs c).1 (some dx)), ⟨m.sF.trans s1, m.g, fun b o h => ?_, fun b e4 e5 => ?_⟩, .exc upd_same (.inr ⟨dx, fs, rfl, by rw [upd_ne h5, upd_same], h9⟩) h8 (h11.mono s1)⟩
    · by_cases hb : b = a
      · subst hb; rw [upd_same] at h; rw [h1]; exact h
      · rw [upd_ne hb] at h
        by_cases hb2 : b = dx
        · subst hb2; rw [upd_same] at h; rw [h2]; exact h
        · rw [upd_ne hb2] at h; exact m.sub b o h
    · have z1 : b ≠ a := fun z => e4 (by rw [z]; exact m.a0)
      have z2 : b ≠ dx := fun z => e4 (by rw [z]; exact h4)
      rw [upd_ne z1, upd_ne z2]; exact m.nF b e4 e5
end

/-! ### what is told of it: any text -/
def rAny : Rl := fun _ _ _ _ _ _ _ => True
def msgOk : D → Bool
  | .str y => decide (y.length ≤ 1000) && y.cps.toList.all fun c => decide (c < 4294967296)
  | .int i => decide (i.natAbs ≤ 1000000)
  | _ => false
section
variable {X : Cx} {cs : Cs} {W : WX} {S : Type} {Γ : S → List SV}
/-- a part of an f-string -/
structure PPart (X : Cx) (cs : Cs) (Γ : S → List SV) (e : Expr) (t : TE) (ok : Bool) : Prop where
  pe : PE X e t
  de : ok = true → ∀ s O F σ H Q, Rep X.K cs O F σ H (Γ s) → (∀ y : Str, y.length ≤ 20000 → Q (.str y) H) → t σ H Q
theorem pp_str {x : Str} {j : Nat} {pos : Pos} : PPart X cs Γ (.Constant (.str x) j pos) (tC (.str x)) (decide (x.length ≤ 20000)) := ⟨pe_str, fun h s O F σ H Q _ q => q x (of_decide_eq_true h)⟩
theorem log_lt {i : Int} (h : i.natAbs ≤ 1000000) : i.natAbs.log2 < 1920 := by
  have : i.natAbs < 2 ^ 1920 := Nat.lt_of_le_of_lt h (by decide +kernel)
  by_cases z : i.natAbs = 0
  · rw [z]; decide
  · exact (Nat.log2_lt z).mpr this
theorem toString_len {i : Int} (h : i.natAbs ≤ 1000000) : (Str.ofString (toString i)).length ≤ 20000 := by
  have e := int_text_length_le (k := 1920) (by decide) (log_lt h)
  rw [PySem.ofString_length]; omega
theorem all_cps {y : Str} (h : (y.cps.toList.all fun c => decide (c < 4294967296)) = true) : ∀ c ∈ y.cps.toList, c < 16 ^ 8 := fun c hc => by
  have := List.all_eq_true.mp h c hc
  exact Nat.lt_of_lt_of_le (of_decide_eq_true this) (by decide)
theorem repr_len {y : Str} (h : msgOk (.str y) = true) : (reprText y).length ≤ 20000 := by
  unfold msgOk at h
  obtain ⟨h1, h2⟩ := Bool.and_eq_true_iff.mp h
  have e := reprText_len y (all_cps h2)
  have := of_decide_eq_true h1
  omega
/-- {x} -/
theorem pp_fmt {e : Expr} {i : Nat} {d : D} {pos : Pos} (he : PE X e (tVar i)) (h : ∀ s, (Γ s)[i]? = some (.dat d)) : PPart X cs Γ (.FormattedValue e (-1) none pos) (tFmt (tVar i)) (msgOk d) := by
  refine ⟨pe_fmt he, fun ok s O F σ H Q r q => ?_⟩
  obtain ⟨v, h1, h2⟩ := r.dat i d (h s)
  refine ⟨v, h1, ?_⟩
  cases h2 with
  | str y =>
    have hz : y.length ≤ 1000 := of_decide_eq_true (Bool.and_eq_true_iff.mp ok).1
    exact .inl ⟨y, rfl, by rw [sizeLine_eq]; omega, q _ (by omega)⟩
  | int i =>
    have hz : i.natAbs ≤ 1000000 := of_decide_eq_true ok
    exact .inr ⟨i, rfl, log_lt hz, q _ (toString_len hz)⟩
  | _ => cases ok
/-- {x!r} -/
theorem pp_fmtR {e : Expr} {i : Nat} {d : D} {pos : Pos} (he : PE X e (tVar i)) (h : ∀ s, (Γ s)[i]? = some (.dat d)) : PPart X cs Γ (.FormattedValue e 114 none pos) (tFmtR (tVar i)) (msgOk d) := by
  refine ⟨pe_fmtR he, fun ok s O F σ H Q r q => ?_⟩
  obtain ⟨v, h1, h2⟩ := r.dat i d (h s)
  refine ⟨v, h1, ?_⟩
  cases h2 with
  | str y => exact .inl ⟨y, rfl, by have := repr_len ok; rw [sizeLine_eq]; omega, q _ (repr_len ok)⟩
  | int i =>
    have hz : i.natAbs ≤ 1000000 := of_decide_eq_true ok
    exact .inr ⟨i, rfl, log_lt hz, q _ (toString_len hz)⟩
  | _ => cases ok
inductive PParts (X : Cx) (cs : Cs) (Γ : S → List SV) : List Expr → List TE → Bool → Prop where
  | nil : PParts X cs Γ [] [] true
  | cons {e : Expr} {t : TE} {es : List Expr} {ts : List TE} {ok ok' : Bool} (h : PPart X cs Γ e t ok) (r : PParts X cs Γ es ts ok') : PParts X cs Γ (e :: es) (t :: ts) (ok && ok')
theorem PParts.pj {es : List Expr} {ts : List TE} {ok : Bool} (h : PParts X cs Γ es ts ok) : PJ X es ts := by
  induction h with
  | nil => exact .nil
  | cons h r ih => exact .cons h.pe ih
theorem PParts.de {es : List Expr} {ts : List TE} {ok : Bool} (h : PParts X cs Γ es ts ok) : ok = true → ∀ s O F σ H (Q : Str → Hp → Prop) (acc : Str), acc.length + 20000 * ts.length ≤ 400000 → Rep X.K cs O F σ H (Γ s) → (∀ y : Str, y.length ≤ 400000 → Q y H) → tJs ts acc σ H Q := by
  induction h with
  | nil => intro _ s O F σ H Q acc hl r q; exact q acc (by simpa using hl)
  | @cons e t es ts ok ok' h r ih =>
    intro hk s O F σ H Q acc hl rp q
    obtain ⟨k1, k2⟩ := Bool.and_eq_true_iff.mp hk
    refine h.de k1 s O F σ H _ rp fun y hy => ⟨y, rfl, ?_, ih k2 s O F σ H Q (acc ++ y) ?_ rp q⟩
    · have : (acc ++ y).length = acc.length + y.length := by first | exact Str.length_append .. | simp
      rw [this, sizeLine_eq]; rw [List.length_cons] at hl; omega
    · have : (acc ++ y).length = acc.length + y.length := by first | exact Str.length_append .. | simp
      rw [this]; rw [List.length_cons] at hl; omega
/-- what an error is told with -/
structure PMsg (X : Cx) (cs : Cs) (Γ : S → List SV) (e : Expr) (t : TE) (ok : Bool) : Prop where
  pe : PE X e t
  de : ok = true → ∀ s O F σ H Q, Rep X.K cs O F σ H (Γ s) → (∀ y : Str, Q (.str y) H) → t σ H Q
theorem pm_str {x : Str} {j : Nat} {pos : Pos} : PMsg X cs Γ (.Constant (.str x) j pos) (tC (.str x)) true := ⟨pe_str, fun _ s O F σ H Q _ q => q x⟩
theorem pm_joined {v1 v2 : Expr} {rest : List Expr} {ts : List TE} {ok : Bool} {pos : Pos} (h : PParts X cs Γ (v1 :: v2 :: rest) ts ok) (hl : ts.length ≤ 20) : PMsg X cs Γ (.JoinedStr (v1 :: v2 :: rest) pos) (fun σ H Q => tJs ts Str.empty σ H fun out H1 => Q (.str out) H1) ok :=
  ⟨pe_joined h.pj, fun hk s O F σ H Q r q => h.de hk s O F σ H _ Str.empty (by show 0 + _ ≤ _; omega) r fun y _ => q y⟩
end
end HD
set_option maxRecDepth 100000
set_option maxHeartbeats 4000000
namespace HD
open PySem PySem.Spec PyProof.Rows L2

/-! ### an exception's own __init__ -/
def okD (r : R Unit D) : Option D := match r with
  | .ok d _ => some d
  | _ => none
@[simp] theorem okD_ok (d : D) (u : Unit) : okD (.ok d u) = some d := rfl
structure PStores (X : Cx) (cs : Cs) (W : WX) (Γ : Unit → List SV) (C : Addr) (sts : List Stmt) (t : TS) (ns : List Str) (fs : Option (List D)) : Prop where
  ps : PSs X sts t
  de : ∀ (a : Addr) (F0 H0 F H : Hp) (σ : L2.St) (ns0 : List Str) (ds0 ds : List D) (En : Ends), σ[0]? = some (some (.ref a)) → Rep X.K cs [] F σ H (Γ ()) → EM X.K cs C a F0 H0 F H ns0 ds0 → (∀ n ∈ ns, n ∉ ns0) → ns.Nodup → ns0.length + ns.length ≤ 20 → fs = some ds →
    (∀ F' H', EM X.K cs C a F0 H0 F' H' (ns0 ++ ns) (ds0 ++ ds) → En.nx σ H') → t En σ H
section
variable {X : Cx} {cs : Cs} {W : WX} {Γ : Unit → List SV} {C : Addr} {B newId initId : String} {bmB : List Value}
theorem pst_nil : PStores X cs W Γ C [] tNext [] (some []) := ⟨pss_nil, fun a F0 H0 F H σ ns0 ds0 ds En _ _ m _ _ _ e k => by
  cases e
  exact k F H (by simpa using m)⟩
theorem pst_cons {f : Str} {o e : Expr} {te : TE} {m : Unit → R Unit D} {sts : List Stmt} {t : TS} {ns : List Str} {fs : Option (List D)} {p' pos : Pos} (T : EC X.K C B newId initId bmB) (hno : PySem.W.takerIn X.K C f = some none) (ho : PE X o (tVar 0)) (he : PD X cs W Γ e te m) (hr : PStores X cs W Γ C sts t ns fs)
    (hs : swapsWith e (some (.Attribute o f p')) pos.line X.env = pure false := by rfl) :
    PStores X cs W Γ C (.Assign [.Attribute o f p'] e pos :: sts) (tSeq (tEst X.K C f (tVar 0) te) t) (f :: ns) ((okD (m ())).bind fun d => fs.map (d :: ·)) := by
  refine ⟨pss_cons (ps_est T hno ho he.pe hs) hr.ps, fun a F0 H0 F H σ ns0 ds0 ds En hv r em hd nd hl ef k => ?_⟩
  cases hm : m () with
  | err x s => rw [hm] at ef; cases ef
  | stuck => rw [hm] at ef; cases ef
  | ok d s' =>
    rw [hm] at ef
    cases hfs : fs with
    | none => rw [hfs] at ef; cases ef
    | some ds1 =>
      rw [hfs] at ef
      have ef : some (d :: ds1) = some ds := ef
      cases ef
      have nd' := List.nodup_cons.mp nd
      refine he.de () [] F σ H _ r ?_
      rw [hm]
      intro F1 H1 v e1 r1 dv
      refine ⟨_, hv, a, rfl, ?_⟩
      have em1 := em.ext e1 r1.same
      have fin : ∀ {H2 : Hp}, EM X.K cs C a F0 H0 F1 H2 (ns0 ++ [f]) (ds0 ++ [d]) → t En σ H2 := fun {H2} m2 => by
        refine hr.de a F0 H0 F1 H2 σ (ns0 ++ [f]) (ds0 ++ [d]) ds1 En hv (r1.later (Same.refl _) m2.sub (fun b hb => (nomatch hb)) (fun b hb => (nomatch hb))) m2 (fun n hn => ?_) nd'.2 (by simp only [List.length_append, List.length_cons, List.length_nil] at hl ⊢; omega) hfs fun F' H' m3 => k F' H' (by simpa using m3)
        simp only [List.mem_append, List.mem_singleton, not_or]
        exact ⟨hd n (List.mem_cons_of_mem _ hn), fun z => nd'.1 (z ▸ hn)⟩
      rcases em1.put (f := f) (hd f List.mem_cons_self) dv with ⟨h1, h2⟩ | ⟨dx, fs', h1, h2, h3, h4⟩
      · exact .inl ⟨h1, fun dx hx ne => fin (h2 dx hx ne)⟩
      · exact .inr ⟨dx, fs', h1, h2, by omega, fin h4⟩
end
/-- called with data: an exception that tells them -/
def spX (K : PySem.W.Frag) (cs : Cs) (c n : Nat) (g : List D → Option (List D)) : Sp := fun vs H Q _ => ∃ (a : Addr) (ws : List V) (F H0 : Hp) (ds fs : List D), vs = .ref a :: ws ∧ ws.length = n ∧ H0 a = none ∧ H = upd H0 a (exo a (cs c).1 none) ∧ Same F H0 ∧ DVs K cs F ws ds ∧ g ds = some fs ∧
  ∀ F' H', Grow F H0 F' H' → DV K cs F' (.ref a) (.exc c fs) → Q .non H'
/-- a def of a class that says super() -/
structure FunS (P : Program) (K : PySem.W.Frag) (x qual : Str) (st : Stmt) (f cc cda D : Addr) (fd : FuncData) : Prop where
  ex : ∃ (oc : Value) (od : Option Addr) (kV doc pm : Value) (an : Option Addr) (ct : Value) (osl : Array (Option Value)),
    fd = PySem.W.fnX x qual (defArgs st) (defBody st) (defScope st) [(clsName, cc)] .none kV doc pm an (.ref cda) ct ∧ K.lookup f = some ⟨oc, od, .func fd, osl⟩ ∧ PySem.W.codeIn K (.ref cda) qual = true
  cdo : ∃ (ccl : Value) (cdd : Option Addr) (vs : Array Value) (ccs : Array (Option Value)) (file : Str) (tf : Tok), K.lookup cda = some ⟨ccl, cdd, .fields vs, ccs⟩ ∧ vs[2]? = some (.str file tf) ∧ ((P.main.file : Str) == file) = true
  cell : ∃ (cl : Value) (cld : Option Addr) (csl : Array (Option Value)), K.lookup cc = some ⟨cl, cld, .cell (some (.ref D)), csl⟩
  cls : (PySem.W.clsIn K D).isSome = true
  top : (P.main.scope.names.lookup ("super" : Str)).isSome = false
theorem loc_cls {names : List (Str × NameKind)} {n : Nat} {cc : Addr} (h : (clsName, NameKind.cell) ∉ names) : (cellsFrom n names [(clsName, cc)]).lookup clsName = some cc := by
  rw [show cellsFrom n names [(clsName, cc)] = cellsFrom n names [] ++ [(clsName, cc)] from cellsFrom_app _ _ [] _]
  have no : ∀ p ∈ cellsFrom n names [], p.1 ≠ clsName := fun p hp z => by
    rcases cellsFrom_mem names n [] p.1 p.2 hp with q | q
    · exact nomatch q
    · exact h (z ▸ q)
  have key : ∀ l : List (Str × Addr), (∀ p ∈ l, p.1 ≠ clsName) → (l ++ [(clsName, cc)]).lookup clsName = some cc := by
    intro l
    induction l with
    | nil => intro _; simp [List.lookup]
    | cons p l ih =>
      intro hp
      have : (clsName == p.1) = false := by
        have := hp p List.mem_cons_self
        simpa using fun z : clsName = p.1 => this z.symm
      rw [List.cons_append, List.lookup_cons, this]
      exact ih fun q hq => hp q (List.mem_cons_of_mem _ hq)
  exact key _ no
theorem rep_self {K : PySem.W.Frag} {cs : Cs} {F H : Hp} {u : V} {vs : List V} {ds : List D} (e : Same F H) (h : DVs K cs F vs ds) (n : Nat) : Rep K cs [] F (some u :: (vs.map some ++ List.replicate n none)) H (.unk :: (ds.map .dat ++ List.replicate n .unk)) := by
  have r := rep_pure (K := K) (cs := cs) e h n
  refine ⟨e, by simp [h.length], fun i d hi => ?_, fun i o hi => ?_, fun i j o o' v v' _ hi => ?_, fun b hb => (nomatch hb), fun b hb => (nomatch hb)⟩
  · cases i with
    | zero => simp at hi
    | succ i => exact r.dat i d (by simpa using hi)
  · cases i with
    | zero => simp at hi
    | succ i => exact r.own i o (by simpa using hi)
  · cases i with
    | zero => simp at hi
    | succ i => 
      have := r.own i o (by simpa using hi)
      obtain ⟨v1, h1, h2, h3⟩ := this
      intro _ e1 _ b hb
      have e2 : v1 = v := by
        have e1 : (some u :: (vs.map some ++ List.replicate n none))[i + 1]? = some (some v) := e1
        rw [List.getElem?_cons_succ] at e1
        rw [h1] at e1
        exact Option.some.inj (Option.some.inj e1)
      subst e2
      exact nomatch h3 b hb
section
variable {P : Program} {w : World} {K : PySem.W.Frag} {mg : Str → Option Value} {base : Heap} {cs : Cs} {B newId initId : String} {bmB : List Value}
theorem fnX {qual : Str} {st : Stmt} {f cc cda : Addr} {fd : FuncData} {N ps : List Str} {k c : Nat} {g : List D → Option (List D)} {ar : Arg} (Fn : FunS P K "__init__" qual st f cc cda (cs c).1 fd) (T : EC K (cs c).1 B newId initId bmB) (Sc : ScopeS N (ar.arg :: ps) (defScope st))
    (har : ((defArgs st).posonlyargs ++ (defArgs st).args).head? = some ar) (hsk : (defScope st).names.lookup ("super" : Str) = some .globalImplicit) (hfk : (defScope st).names.lookup clsName = some .free) (hlk : (defScope st).names.lookup ar.arg = some .local) (hcd : (ar.arg == ("__classdict__" : Str)) = false) (hmg : mg "super" = none)
    {e : Expr} {sts : List Stmt} {p0 p1 p2 p3 p4 : Pos} (hst : defBody st = .Expr (.Call (.Attribute (.Call (.Name "super" p0) [] [] p1) "__init__" p2) [e] [] p3) p4 :: sts) (hnd : ((cs c).2).Nodup) (hnl : ((cs c).2).length ≤ 20)
    (hsw : ∀ X : Cx, swapsWith (.Call (.Attribute (.Call (.Name "super" p0) [] [] p1) "__init__" p2) [e] [] p3) none p4.line X.env = pure false)
    (hse : ∀ X : Cx, starEach [e] X.env = (false, eval e X.env) :: starEach [] X.env)
    (hev : ∀ X : Cx, ∃ pl : Sem Bool, eval (.Call (.Attribute (.Call (.Name "super" p0) [] [] p1) "__init__" p2) [e] [] p3) X.env = (do
      let ov ← attributeBase (.Call (.Name "super" p0) [] [] p1) "__init__" X.env (eval (.Call (.Name "super" p0) [] [] p1) X.env)
      standAt p2.atName
      let (f, first) ← holding [ov] (getMethod ov "__init__" pl)
      callWith p3 f first (backTo p3 (starEach [e] X.env)) []))
    (hb : ∀ (A : Around) (outer : List Env) (s : Shared) (H : Hp) (E : XK), Room k (A.deeper (envS qual (defScope st) s.heap.objs.size f (.ref cda) cc)) → ∀ ds : List D, ds.length = ps.length →
      ∃ (te : TE) (ok : Bool) (ts : TS) (fs : Option (List D)), PMsg (cxS (L2.CX P w) P w K mg base N qual (defScope st) f (.ref cda) cc A outer s H E) cs (fun _ : Unit => .unk :: (ds.map .dat ++ List.replicate (N.length - (ps.length + 1)) .unk)) e te ok ∧
        PStores (cxS (L2.CX P w) P w K mg base N qual (defScope st) f (.ref cda) cc A outer s H E) cs (wE E) (fun _ => .unk :: (ds.map .dat ++ List.replicate (N.length - (ps.length + 1)) .unk)) (cs c).1 sts ts (cs c).2 fs ∧ g ds = if ok then fs else none) :
    FnOk P w K mg base (L2.CX P w) (k + 1) f fd (ar.arg :: ps) (spX K cs c ps.length g) := by
  obtain ⟨oc, od, kV, doc, pm, an, ct, osl, rfl, lk, hco⟩ := Fn.ex
  obtain ⟨cl, cld, csl, hcell⟩ := Fn.cell
  refine fn_ofS lk hco hcell Sc (fun vs H Q E h => ?_) fun A outer s H vs Q E hr h => ?_
  · obtain ⟨a, ws, F, H0, ds, fs, rfl, hl, _⟩ := h
    simp [hl]
  · obtain ⟨a, ws, F, H0, ds, fs, rfl, hl, ha, rfl, sm, dv, eg, q⟩ := h
    obtain ⟨te, ok, ts, fs', pm, pst, eg'⟩ := hb A outer s _ E hr ds (by rw [← dv.length]; exact hl)
    rw [eg'] at eg
    cases ok with
    | false => cases eg
    | true =>
    have eg : fs' = some fs := eg
    have Z : SupC (cxS (L2.CX P w) P w K mg base N qual (defScope st) f (.ref cda) cc A outer s (upd H0 a (exo a (cs c).1 none)) E) f cda cc (cs c).1 ar :=
      ⟨rfl, rfl, ⟨_, _, _, _, lk, har⟩, Fn.cdo, Fn.cell, Fn.cls, loc_cls Sc.nocell, hsk, hfk, hmg, Fn.top⟩
    have hN0 : N[0]? = some ar.arg := by
      have h1 := Sc.pre
      have : (N.take (ar.arg :: ps).length)[0]? = (ar.arg :: ps)[0]? := by rw [h1]
      rw [List.getElem?_take_of_lt (by simp)] at this
      simpa using this
    have hle : ps.length + 1 ≤ N.length := by have := congrArg List.length Sc.pre; rw [List.length_take] at this; simp at this; omega
    rw [hst]
    obtain ⟨pl, hev'⟩ := hev (cxS (L2.CX P w) P w K mg base N qual (defScope st) f (.ref cda) cc A outer s (upd H0 a (exo a (cs c).1 none)) E)
    refine ⟨_, psa_cons (ps_supE (i := 0) T Z hN0 (.inl hlk) (pa_cons pm.pe pa_nil (hs := hse _)) hcd (hsw _) hev' (hse _) rfl) (psa_of pst.ps), ?_⟩
    have eσ : L2.start N (.ref a :: ws) = some (.ref a) :: (ws.map some ++ List.replicate (N.length - (ps.length + 1)) none) := by
      unfold L2.start
      simp [hl]
    rw [eσ]
    have hFa : F a = none := sm.free ha
    have s1 : Same F (upd H0 a (exo a (cs c).1 none)) := fun b o h => by rw [upd_ne (ne_of_none h hFa)]; exact sm b o h
    have r := rep_self (K := K) (cs := cs) (u := .ref a) s1 dv (N.length - (ps.length + 1))
    refine ⟨a, rfl, upd_same, ?_⟩
    refine pm.de rfl () [] F _ _ _ r fun y => ?_
    refine ⟨by simp, upd_same, ?_⟩
    have em : EM K cs (cs c).1 a F H0 F (upd H0 a (exo a (cs c).1 none)) [] [] := ⟨fun b o h => by rw [upd_ne (ne_of_none h ha)]; exact h, Same.refl _, s1, fun _ _ h => h, ha, hFa, .inl ⟨rfl, rfl, upd_same⟩⟩
    refine pst.de a F H0 F _ _ [] [] fs _ rfl r em (fun n _ => by simp) hnd (by simpa using hnl) eg fun F' H' m => ?_
    obtain ⟨F2, g2, d2⟩ := EM.fin (c := c) m rfl (by simp)
    have d3 : DV K cs F2 (.ref a) (.exc c ([] ++ fs)) := d2
    exact q F2 H' g2 (by simpa using d3)
end
end HD
set_option maxRecDepth 100000
set_option maxHeartbeats 4000000
namespace HD
open PySem PySem.Spec PyProof.Rows L2

/-! ### C(e, ..), an exception as a value -/
def tMkV (C : Addr) (sp : Sp) (ta : TA) : TE := fun σ H Q => ta σ H fun vs H1 => vs.length ≤ 1000 ∧ ∀ a, H1 a = none → sp (.ref a :: vs) (upd H1 a (exo a C none)) (fun v H2 => v = .non ∧ Q (.ref a) H2) (fun _ _ _ => False)
section
variable {X : Cx} {CX : CXT} {C fI : Addr} {k : Nat} {fd : FuncData} {ps : List Str} {sp : Sp} {B newId initId : String} {bmB : List Value} {x : Str} {e : Expr} {es : List Expr} {ta : TA} {p pos : Pos}
theorem run_exV {pins : List (Addr × Obj)} {σ : L2.St} {H1 : Hp} {s1 : Shared} {us : List Value} {vs : List V} {Q : VK} (T : EC X.K C B newId initId bmB) (iC : PySem.W.findIn X.K (.ref C) "__init__" = some (some (.ref fI))) (tI : PySem.W.typeIn X.K (.ref fI) = some (.type "function"))
    (F1 : FnOk X.prog X.w X.K X.mg X.base CX k fI fd ps sp) (hr : Room (k + 1) X.A) (hb : Binds X.K fd ps []) (hx : Passes CX X (fun _ _ _ => False)) (I1 : Inv X pins σ H1 s1) (r1 : Vals vs us) (hz : vs.length ≤ 1000)
    (q1 : ∀ a, H1 a = none → sp (.ref a :: vs) (upd H1 a (exo a C none)) (fun v H2 => v = .non ∧ Q (.ref a) H2) (fun _ _ _ => False)) : wpAny (model X.prog X.w) X.A (call (.ref C) us) (EP X pins σ Q) X.xe s1 := by
  obtain ⟨nm, N', qn, bs, bm, hdct, sn, sub, ab, col, dd, k0, k1, k2, k3, k5, hC, hT⟩ := PySem.W.excInit_of I1.kIn T.q
  obtain ⟨hp, g, dr, tk, os⟩ := s1
  have hsz : hp.objs.size ≤ hp.objs.size + 1 := Nat.le_succ _
  have hn : H1 (hp.objs.size + 1) = none := I1.hok.fresh hsz
  have hq := q1 (hp.objs.size + 1) hn
  have kk : ∀ b o, hp.get? b = some o → ((hp.push (PySem.W.kdv_tup us)).push (PySem.HandSPX.excO C hp.objs.size)).get? b = some o := fun b o e => Heap.get?_push_of_some _ (Heap.get?_push_of_some _ e)
  have hget : ((hp.push (PySem.W.kdv_tup us)).push (PySem.HandSPX.excO C hp.objs.size)).get? (hp.objs.size + 1) = some (PySem.HandSPX.excO C hp.objs.size) := by heap_get
  have I2 : Inv X pins σ (upd H1 (hp.objs.size + 1) (exo (hp.objs.size + 1) C none)) ⟨(hp.push (PySem.W.kdv_tup us)).push (PySem.HandSPX.excO C hp.objs.size), g, dr, tk, os⟩ :=
    I1.laid (t' := tk) (a := hp.objs.size + 1) (o := exo (hp.objs.size + 1) C none) (h' := (hp.push (PySem.W.kdv_tup us)).push (PySem.HandSPX.excO C hp.objs.size)) kk hsz (exo_ok hget)
  have r2 : Vals (V.ref (hp.objs.size + 1) :: vs) (Value.ref (hp.objs.size + 1) :: us) := .cons rfl r1
  have hl : (Value.ref (hp.objs.size + 1) :: us ++ ([] : List Value)).length = ps.length := by
    have e := r2.length
    rw [F1.len _ _ _ _ hq] at e
    rw [List.append_nil]
    exact e.symm
  have hus : us.length ≤ sizeLine := by
    rw [← Paired.length r1, sizeLine_eq]
    omega
  have hbt := hb _ (Value.ref (hp.objs.size + 1) :: us) I2.kIn hl
  rw [List.append_nil] at hbt
  refine wpAny_call (PySem.HandSPX.call_own T.eb.F hT hC (PySem.W.looks_findIn I1.kIn iC) (fun self => PySem.W.bind_fn I1.kIn self tI) hus
    (codeAny_mono (F1.run _ X.stack _ _ ⟨Value.ref (hp.objs.size + 1) :: us, []⟩ (Value.ref (hp.objs.size + 1) :: us) _ _ (fun _ _ _ => False) (hr.make C us []) (I2.env0.make C us []) hbt r2 hq) fun r s' hq' => ?_))
  cases r with
  | error er => exact hx pins σ _ _ er s' I2 hq'
  | ok fl =>
    cases fl with
    | ret u =>
      obtain ⟨v, H2, os2, bare2, un2, hok2, rv, ev, q2⟩ := hq'
      subst ev
      have U : Un (frs X.stack) [] H1 H2 hp s'.heap := (Un.laid kk hsz hn).trans un2
      exact ⟨rv, .ref (hp.objs.size + 1), H2, I1.call' (ch := []) os2 U hok2 bare2 (fun b z => absurd z (by simp)), rfl, q2⟩
    | next => exact False.elim hq'
    | brk => exact False.elim hq'
    | cont => exact False.elim hq'
theorem pe_exV (T : EC X.K C B newId initId bmB) (iC : PySem.W.findIn X.K (.ref C) "__init__" = some (some (.ref fI))) (tI : PySem.W.typeIn X.K (.ref fI) = some (.type "function"))
    (F1 : FnOk X.prog X.w X.K X.mg X.base CX k fI fd ps sp) (hr : Room (k + 1) X.A) (hb : Binds X.K fd ps []) (hx : Passes CX X (fun _ _ _ => False)) (hg : Gl X x) (hm : X.mg x = some (.ref C)) (ha : PA X (e :: es) ta)
    (hdb : (x == ("__debug__" : Str)) = false := by decide) (he : starEach (e :: es) X.env = (false, eval e X.env) :: starEach es X.env := by rfl) (hpl : (backTo pos (starEach es X.env)).any (·.1) = false := by rfl) :
    PE X (.Call (.Name x p) (e :: es) [] pos) (tMkV C sp ta) := by
  refine ⟨fun pins s σ H Q I h => ?_⟩
  refine wpAny_Call_Name_kw (ld_glob I hg hm ?_ hdb)
  exact PySem.W.callWith_K (h₀ := X.base) I.ok.mod.kin T.kC (thn (ha.run pos pins s σ H _ I h) fun us s1 ⟨vs, H1, I1, r1, hz, q1⟩ => ⟨I1.kIn, run_exV T iC tI F1 hr hb hx I1 r1 hz q1⟩) he hpl
theorem pe_exV0 (T : EC X.K C B newId initId bmB) (iC : PySem.W.findIn X.K (.ref C) "__init__" = some (some (.ref fI))) (tI : PySem.W.typeIn X.K (.ref fI) = some (.type "function"))
    (F1 : FnOk X.prog X.w X.K X.mg X.base CX k fI fd ps sp) (hr : Room (k + 1) X.A) (hb : Binds X.K fd ps []) (hx : Passes CX X (fun _ _ _ => False)) (hg : Gl X x) (hm : X.mg x = some (.ref C))
    (hdb : (x == ("__debug__" : Str)) = false := by decide) : PE X (.Call (.Name x p) [] [] pos) (tMkV C sp tNil) := by
  refine ⟨fun pins s σ H Q I h => ?_⟩
  refine wpAny_Call_Name_kw (ld_glob I hg hm ?_ hdb)
  exact PySem.W.callWith_K0 I.kIn T.kC (run_exV T iC tI F1 hr hb hx I .nil (Nat.zero_le _) h.2)
end
section
variable {X : Cx} {cs : Cs} {W : WX} {S : Type} {Γ : S → List SV} {fI : Addr} {k c : Nat} {fd : FuncData} {ps : List Str} {B newId initId : String} {bmB : List Value} {x : Str} {e : Expr} {es : List Expr} {t : TA} {p pos : Pos} {ms : (β : Type) → S → (List D → S → R S β) → R S β} {g : List D → Option (List D)} {ar : Str}
/-- the text's facts of a class that is called -/
structure XMk (X : Cx) (cs : Cs) (c k : Nat) (ar : Str) (ps : List Str) (g : List D → Option (List D)) (B newId initId : String) (bmB : List Value) (fI : Addr) (fd : FuncData) : Prop where
  T : EC X.K (cs c).1 B newId initId bmB
  iC : PySem.W.findIn X.K (.ref (cs c).1) "__init__" = some (some (.ref fI))
  tI : PySem.W.typeIn X.K (.ref fI) = some (.type "function")
  fn : FnOk X.prog X.w X.K X.mg X.base (L2.CX X.prog X.w) k fI fd (ar :: ps) (spX X.K cs c ps.length g)
  bi : Binds X.K fd (ar :: ps) []
theorem passNo (tk : Takes X W) : Passes (L2.CX X.prog X.w) X (fun _ _ _ => False) := fun pins σ H s e s' I c => tk _ _ (XE.of_call I (fun _ _ _ h => h.elim) c)
theorem spX_post {K : PySem.W.Frag} {O : List Addr} {σ : L2.St} {Q : VK} {F H : Hp} {s : S} {vs : List V} {ds : List D} {n : Nat} (q : Post rDV K cs W Γ O σ Q F H (opt ((g ds).map (.exc c)) s)) (rp : Rep K cs O F σ H (Γ s)) (hl : vs.length = n) (dv : DVs K cs F vs ds) :
    ∀ a, H a = none → spX K cs c n g (.ref a :: vs) (upd H a (exo a (cs c).1 none)) (fun v H2 => v = .non ∧ Q (.ref a) H2) (fun _ _ _ => False) := fun a ha => by
  cases hg : g ds with
  | none => rw [hg] at q; exact q.elim
  | some fs =>
    rw [hg] at q
    exact ⟨a, vs, F, H, ds, fs, rfl, hl, ha, rfl, rp.same, dv, hg, fun F' H' gr d => ⟨rfl, q F' H' _ (gr.ext O) (gr.rep rp) d⟩⟩
theorem pd_exV (M : XMk X cs c k ar ps g B newId initId bmB fI fd) (hn : (e :: es).length = ps.length) (hz : ps.length ≤ 1000) (hr : Room (k + 1) X.A) (tk : Takes X W) (hg : Gl X x) (hm : X.mg x = some (.ref (cs c).1)) (ha : PAD X cs W Γ (e :: es) t ms)
    (hdb : (x == ("__debug__" : Str)) = false := by decide) (he : starEach (e :: es) X.env = (false, eval e X.env) :: starEach es X.env := by rfl) (hpl : (backTo pos (starEach es X.env)).any (·.1) = false := by rfl) :
    PD X cs W Γ (.Call (.Name x p) (e :: es) [] pos) (tMkV (cs c).1 (spX X.K cs c ps.length g) t) (fun s => ms D s fun ds s1 => opt ((g ds).map (.exc c)) s1) := by
  refine ⟨pe_exV M.T M.iC M.tI M.fn hr M.bi (passNo tk) hg hm ha.pa hdb he hpl, fun s O F σ H Q r q => ?_⟩
  refine ha.de Post.goal r q fun ds s1 F1 H1 vs e1 r1 d1 l1 q1 => ?_
  have hl : vs.length = ps.length := by rw [d1.length, l1]; exact hn
  exact ⟨by rw [hl]; exact hz, spX_post q1 r1 hl d1⟩
theorem pd_exV0 (M : XMk X cs c k ar [] g B newId initId bmB fI fd) (hr : Room (k + 1) X.A) (tk : Takes X W) (hg : Gl X x) (hm : X.mg x = some (.ref (cs c).1)) (hdb : (x == ("__debug__" : Str)) = false := by decide) :
    PD X cs W Γ (.Call (.Name x p) [] [] pos) (tMkV (cs c).1 (spX X.K cs c 0 g) tNil) (fun s => opt ((g []).map (.exc c)) s) := by
  refine ⟨pe_exV0 M.T M.iC M.tI M.fn hr M.bi (passNo tk) hg hm hdb, fun s O F σ H Q r q => ?_⟩
  exact ⟨Nat.zero_le _, spX_post q r rfl .nil⟩

/-! ### e.f, e an exception held as a value -/
structure XAt (K : PySem.W.Frag) (cs : Cs) (f : Str) (at_ : Nat → Option Nat) : Prop where
  ok : ∀ c k, at_ c = some k → XfC K (cs c).1 ∧ PySem.W.findIn K (.ref (cs c).1) f = some none ∧ (cs c).2[k]? = some f
def xfldF (at_ : Nat → Option Nat) : D → Option D
  | .exc c ds => (at_ c).bind fun k => ds[k]?
  | _ => none
def rXf (K : PySem.W.Frag) (f : Str) : V → Hp → VK → Prop := fun x H Q => ∃ (a C d : Addr) (fs : List (Str × V)) (v : V), x = .ref a ∧ XfC K C ∧ PySem.W.findIn K (.ref C) f = some none ∧ H a = some (exo a C (some d)) ∧ H d = some (exd d fs) ∧ fs.lookup f = some v ∧ Q v H
theorem pe_xfV {e : Expr} {te : TE} {pos : Pos} {f : Str} (he : PE X e te) (hb : attributeBase e f X.env (eval e X.env) = eval e X.env := by rfl) : PE X (.Attribute e f pos) (fun σ H Q => te σ H fun x H1 => rXf X.K f x H1 Q) := by
  refine ⟨fun pins s σ H Q I h => ?_⟩
  refine attr_of hb (thn (he.run pins s σ H _ I h) fun u s1 hh => ?_)
  obtain ⟨x, H1, I1, rx, a, C, d, fs, v, ex, T, hno, ea, ed, l, q⟩ := hh
  subst ex
  obtain rfl : u = Value.ref a := rx
  obtain ⟨t1, ho⟩ := exo_at I1.hok ea
  obtain ⟨mA, hns, hr⟩ := exd_at I1.hok ed
  obtain ⟨od, hod, hl⟩ := lookIn_ns hns
  obtain ⟨u, hu, ru⟩ := RelO.some_of (v := v) (o := mA f) (by rw [← l]; exact hr f)
  have J : PySem.W.InstAt s1.heap a { cls := .ref C, dict := some d, data := .fields #[.ref t1, .none, .none, .none, .bool false, .none] } C (some od) := ⟨ho, rfl, rfl, hod⟩
  exact HandSPX.exc_get I1.kIn J T.ga T.gg T.exC (PySem.W.findObj_own T.hdC hno rfl (by rw [hl, hu])) (handed_of ru) ⟨v, H1, I1.tok _, ru, q⟩
theorem d_xf {f : Str} {at_ : Nat → Option Nat} (h : XAt X.K cs f at_) : UnD rDV X.K cs (rXf X.K f) (xfldF at_) := by
  intro x z hf O F H v Q e hx q
  cases hx with
  | @exc a dd c vs ds h1 h2 h3 h4 =>
    have hf : ((at_ c).bind fun k => ds[k]?) = some z := hf
    cases hk : at_ c with
    | none => rw [hk] at hf; cases hf
    | some k =>
      rw [hk] at hf
      obtain ⟨T, hno, hn⟩ := h.ok c k hk
      obtain ⟨w, hw, dw⟩ := h4.get (show ds[k]? = some z from hf)
      rcases h2 with ⟨_, h2⟩ | ⟨d, fs, rfl, h5, h6⟩
      · rw [h2] at hn; simp at hn
      · exact ⟨a, _, d, fs, w, rfl, T, hno, e _ _ h1, e _ _ h5, h6 k f w hn hw, q F H w (Grow.refl e) dw⟩
  | _ => cases hf
theorem pd_xf {e : Expr} {te : TE} {m : S → R S D} {pos : Pos} {f : Str} {at_ : Nat → Option Nat} (h : XAt X.K cs f at_) (ha : PD X cs W Γ e te m) (hb : attributeBase e f X.env (eval e X.env) = eval e X.env := by rfl) :
    PD X cs W Γ (.Attribute e f pos) (fun σ H Q => te σ H fun x H1 => rXf X.K f x H1 Q) (fun s => (m s).bind fun x s1 => opt (xfldF at_ x) s1) := pd_one (pe_xfV ha.pe hb) (fun _ _ _ h => h) (d_xf h) ha
end
end HD
set_option maxRecDepth 100000
set_option maxHeartbeats 4000000
namespace HD
open PySem PySem.Spec PyProof.Rows L2

/-! ### isinstance -/
inductive TyE (K : PySem.W.Frag) (H : Hp) : V → Value → Prop where
  | x {x : V} {t : Value} (h : TyX K H x t) : TyE K H x t
  | exc {a C : Addr} {dd : Option Addr} (e : H a = some (exo a C dd)) (h : dd = none ∨ ∃ d fs, dd = some d ∧ H d = some (exd d fs)) (X : ExcC K C) : TyE K H (.ref a) (.ref C)
section
variable {X : Cx} {pins : List (Addr × Obj)} {σ : L2.St} {H : Hp} {s : Shared}
theorem kit_ofE {x : V} {u t : Value} (I : Inv X pins σ H s) (rx : RelV x u) (ty : TyE X.K H x t) : ∃ P : Heap → Prop, PySem.W.KitX X.K u t P ∧ P s.heap ∧ u ≠ .builtin "__main__.__loader__#opaque" := by
  cases ty with
  | x h => exact kit_of I rx h
  | @exc a C dd e h C0 =>
    cases (show u = Value.ref a from rx)
    obtain ⟨t1, ho⟩ := exo_at I.hok e
    have hcl : (PySem.W.clsIn X.K C).isSome = true := by
      obtain ⟨cd, hc, _⟩ := PySem.W.any_some C0.hd
      rw [hc]; rfl
    rcases h with rfl | ⟨d, fs, rfl, ed⟩
    · exact ⟨_, PySem.W.kitx_exc (ox := { cls := .ref C, dict := none, data := .fields #[.ref t1, .none, .none, .none, .bool false, .none] }) (od := none) hcl C0.hg C0.hk C0.hs C0.ha C0.hn C0.ht C0.hm, ⟨ho, rfl, rfl, trivial⟩, fun z => nomatch z⟩
    · obtain ⟨mA, hns, _⟩ := exd_at I.hok ed
      obtain ⟨od, hod, _⟩ := lookIn_ns hns
      exact ⟨_, PySem.W.kitx_exc (ox := { cls := .ref C, dict := some d, data := .fields #[.ref t1, .none, .none, .none, .bool false, .none] }) (od := some od) hcl C0.hg C0.hk C0.hs C0.ha C0.hn C0.ht C0.hm, ⟨ho, rfl, rfl, hod⟩, fun z => nomatch z⟩
end
/-- one class, or a tuple of classes that was just laid -/
def rIsE1 (K : PySem.W.Frag) : List V → Hp → VK → Prop := fun xs H Q => ∃ (x c : V) (t u : Value) (b : Bool), xs = [x, c] ∧ ClsV c u ∧ TyE K H x t ∧ PySem.W.kitOne K t u = some b ∧ Q (.bl b) H
def rIsET (K : PySem.W.Frag) : List V → Hp → VK → Prop := fun xs H Q => ∃ (x : V) (tp : Addr) (cs : List V) (t : Value) (us : List Value) (b : Bool), xs = [x, .ref tp] ∧ H tp = some (.tup cs) ∧ Paired ClsV cs us ∧ TyE K H x t ∧ PySem.W.kitAny K t us = some b ∧ Q (.bl b) H
section
variable {X : Cx}
theorem call_isE1 : CallR X (.builtin "isinstance") (rIsE1 X.K) := by
  intro pins s σ H xs us Q I r h
  obtain ⟨x, c, t, u, b, rfl, k, ty, e, q⟩ := h
  obtain ⟨u1, u2, rfl, r1, r2⟩ := vals2 r
  have e2 := k.eq r2
  subst e2
  obtain ⟨P, Z, p, hx⟩ := kit_ofE I r1 ty
  exact PySem.W.kia_one Z I.kIn p e hx fun tk => ⟨.bl b, H, I.tok tk, rfl, q⟩
theorem call_isET : CallR X (.builtin "isinstance") (rIsET X.K) := by
  intro pins s σ H xs us Q I r h
  obtain ⟨x, tp, cs, t, ws, b, rfl, hT, k, ty, e, q⟩ := h
  obtain ⟨u1, u2, rfl, r1, r2⟩ := vals2 r
  cases (show u2 = Value.ref tp from r2)
  obtain ⟨P, Z, p, hx⟩ := kit_ofE I r1 ty
  obtain ⟨_, its, rv, o, h1, h2, n, h3⟩ := (show ObjOk X.prog X.w H s.heap tp (.tup cs) from I.hok tp _ hT)
  have e3 := ClsV.all k rv
  subst e3
  obtain ⟨oc, od, dt, sl⟩ := o
  simp only at h2 h3
  subst h2 h3
  exact PySem.W.kia_tup Z I.kIn p h1 e hx fun tk => ⟨.bl b, H, I.tok tk, rfl, q⟩
end
/-- what the text says of an own class whose instances are asked for -/
structure InsC (K : PySem.W.Frag) (C : Addr) : Prop where
  cl : Cls K C
  ha : PySem.W.findIn K (.ref C) "__class__" = some (some (.builtin "object.__class__"))
  hn : PySem.W.specialIn K (.builtin "object.__class__") "__get__" = some (some (.builtin "getset_descriptor.__get__"))
  ht : PySem.W.takesIn K (.builtin "object.__class__") = some true
  hm : PySem.W.mroIn K C (.type "object") = some true
def tyV (cs : Cs) : D → Value
  | .non => .type "NoneType"
  | .bl _ => .type "bool"
  | .int _ => .type "int"
  | .str _ => .type "str"
  | .lst _ => .type "list"
  | .tup _ => .type "tuple"
  | .dct _ => .type "dict"
  | .obj c _ => .ref (cs c).1
  | .exc c _ => .ref (cs c).1
structure IsOk (K : PySem.W.Frag) (cs : Cs) (us : List Value) (f : D → Option Bool) : Prop where
  kit : ∀ x b, f x = some b → PySem.W.kitAny K (tyV cs x) us = some b
  obj : ∀ c ds b, f (.obj c ds) = some b → InsC K (cs c).1
  exc : ∀ c ds b, f (.exc c ds) = some b → ExcC K (cs c).1
theorem ty_of {K : PySem.W.Frag} {cs : Cs} {O : List Addr} {F H : Hp} {v : V} {x : D} {us : List Value} {f : D → Option Bool} {b : Bool} (ok : IsOk K cs us f) (hf : f x = some b) (e : Same F H) (h : rRV K cs O F H v x) : TyE K H v (tyV cs x) := by
  rcases h with h | ⟨p, vs, ds, rfl, rfl, h, _⟩ | ⟨p, vs, ds, rfl, rfl, h, _⟩
  · cases h with
    | non => exact .x (.base .non)
    | bl b => exact .x (.base (.bl b))
    | int i => exact .x (.base (.int i))
    | str y => exact .x (.base (.str y))
    | lst h _ => exact .x (.base (.lst (e _ _ h)))
    | tup h _ =>
      rcases h with (h | ⟨o, h⟩) | ⟨o, its, n, h1, h2, _⟩
      · exact .x (.base (.tup (e _ _ h)))
      · exact .x (.fTuple (e _ _ h))
      · exact .x (.kTuple h1 h2)
    | dct h _ => exact .x (.base (.dK (e _ _ h)))
    | @obj a dx c vs ds h l t =>
      have C := ok.obj c ds b hf
      exact .x (.base (.ins (e _ _ h) C.cl C.ha C.hn C.ht C.hm))
    | @exc a dd c vs ds h x l t =>
      refine .exc (e _ _ h) ?_ (ok.exc c ds b hf)
      rcases x with ⟨x, _⟩ | ⟨d, fs, x1, x2, _⟩
      · exact .inl x
      · exact .inr ⟨d, fs, x1, e _ _ x2⟩
  · exact .x (.base (.lst h))
  · exact .x (.base (.dK h))
def isiF (f : D → Option Bool) (x : D) : Option D := (f x).map .bl
section
variable {X : Cx} {cs : Cs} {W : WX} {S : Type} {Γ : S → List SV} {x : Str} {e ec : Expr} {te : TE} {c : V} {u : Value} {m : S → R S D} {p pos : Pos} {f : D → Option Bool}
theorem boot_isinstance : bootBuiltins "isinstance" = some (.builtin "isinstance") := by decide +kernel
theorem kit1 {K : PySem.W.Frag} {t u : Value} {b : Bool} (h : PySem.W.kitAny K t [u] = some b) : PySem.W.kitOne K t u = some b := by
  unfold PySem.W.kitAny at h
  split at h
  · rename_i h2; cases h; exact h2
  · rename_i h2
    have : some false = some b := h
    cases this; exact h2
  · cases h
/-- isinstance(e, C) -/
theorem pd_isi (ok : IsOk X.K cs [u] f) (hcu : ClsV c u) (hg : Gl X "isinstance") (hm : X.mg "isinstance" = none) (hec : PE X ec (tC c)) (ha : PR X cs W Γ e te m)
    (he : starEach [e, ec] X.env = (false, eval e X.env) :: starEach [ec] X.env := by rfl) (he2 : starEach [ec] X.env = (false, eval ec X.env) :: starEach [] X.env := by rfl) (hpl : (backTo pos (starEach [ec] X.env)).any (·.1) = false := by rfl) :
    PD X cs W Γ (.Call (.Name "isinstance" p) [e, ec] [] pos) (tCB (rIsE1 X.K) (tCons te (tCons (tC c) tNil))) (fun s => (m s).bind fun x s1 => opt (isiF f x) s1) := by
  refine pd_one (ta := te) (r := fun v H Q => rIsE1 X.K [v, c] H Q) (pe_callB call_isE1 hg hm boot_isinstance (pa_cons ha.pe (pa_cons hec pa_nil he2) he) (by decide) (by decide) he hpl) (fun _ _ _ q => q) ?_ ha
  intro x z hz O F H v Q sm hv q
  unfold isiF at hz
  cases hf : f x with
  | none => rw [hf] at hz; cases hz
  | some b =>
    rw [hf] at hz; cases hz
    exact ⟨v, c, _, u, b, rfl, hcu, ty_of ok hf sm hv, kit1 (ok.kit x b hf), q F H _ (Grow.refl sm) (.bl b)⟩
/-- isinstance(e, (C1, C2, ..)) -/
theorem pd_isiT {es : List Expr} {ta : TA} {cs' : List V} {us : List Value} {x1 : Nat} {pos2 : Pos} (ok : IsOk X.K cs us f) (hcu : Paired ClsV cs' us) (hn : cs'.length ≤ 100) (hg : Gl X "isinstance") (hm : X.mg "isinstance" = none) (hec : PA X es ta) (hta : ∀ σ H Q, Q cs' H → ta σ H Q) (ha : PD X cs W Γ e te m)
    (he : starEach [e, .Tuple es x1 pos2] X.env = (false, eval e X.env) :: starEach [.Tuple es x1 pos2] X.env := by rfl) (he2 : starEach [.Tuple es x1 pos2] X.env = (false, eval (.Tuple es x1 pos2) X.env) :: starEach [] X.env := by rfl) (hpl : (backTo pos (starEach [.Tuple es x1 pos2] X.env)).any (·.1) = false := by rfl) :
    PD X cs W Γ (.Call (.Name "isinstance" p) [e, .Tuple es x1 pos2] [] pos) (tCB (rIsET X.K) (tCons te (tCons (tTup ta) tNil))) (fun s => (m s).bind fun x s1 => opt (isiF f x) s1) := by
  refine ⟨pe_callB call_isET hg hm boot_isinstance (pa_cons ha.pe (pa_cons (pe_tup hec) pa_nil he2) he) (by decide) (by decide) he hpl, fun s O F σ H Q r q => ?_⟩
  refine ha.run Post.goal r q fun x s1 F1 H1 v e1 r1 d1 q1 => ?_
  refine hta _ _ _ ⟨Nat.le_trans hn (by rw [sizeLine_eq]; decide), fun p hp => ?_⟩
  cases hf : f x with
  | none => unfold isiF at q1; rw [hf] at q1; exact q1.elim
  | some b =>
    unfold isiF at q1; rw [hf] at q1
    have gr := Grow.new (o := .tup cs') r1.same hp
    exact ⟨v, p, cs', _, us, b, rfl, upd_same, hcu, ty_of (O := O) ok hf gr.sub (.inl (d1.mono gr.sF)), ok.kit x b hf, Post.grow q1 r1 gr (.bl b)⟩
end
end HD
set_option maxRecDepth 100000
set_option maxHeartbeats 4000000
namespace HD
open PySem PySem.Spec PyProof.Rows L2

/-! ### defs that are handed the source -/
def PostS (K : PySem.W.Frag) (cs : Cs) (F H : Hp) (Q : VK) (E : XK) (p q : Addr) : R Src D → Prop
  | .ok d s => ∀ F' H' v, Ext [p, q] F H [p, q] F' H' → Same F' H' → F' p = none → F' q = none → Own K cs F' H' (.src q s) (.ref p) → DV K cs F' v d → Q v H'
  | .err x s => ∀ F' H' cls dd, Ext [p, q] F H [p, q] F' H' → Same F' H' → F' p = none → F' q = none → Own K cs F' H' (.src q s) (.ref p) → XVr K cs F' x cls dd → E cls dd H'
  | .stuck => False
def spS (K : PySem.W.Frag) (cs : Cs) (n : Nat) (g : Src → List D → R Src D) : Sp := fun vs H Q E => ∃ p ws, vs = .ref p :: ws ∧ ws.length = n ∧ ∃ q s F ds, Own K cs F H (.src q s) (.ref p) ∧ Same F H ∧ F p = none ∧ F q = none ∧ DVs K cs F ws ds ∧ PostS K cs F H Q E p q (g s ds)
theorem src_ne {K : PySem.W.Frag} {cs : Cs} {F H : Hp} {q p : Addr} {s : Src} (h : Own K cs F H (.src q s) (.ref p)) : p ≠ q := by
  obtain ⟨p', e, h1, h2⟩ := h
  cases e
  intro z
  rw [z, h2] at h1
  cases h1
section
variable {S : Type} {X : Cx} {cs : Cs} {W : WX} {Γ : S → List SV} {e a b : Expr} {es : List Expr} {te ta tb : TE} {t : TA} {m ma mb : S → R S D} {pos p0 : Pos} {x : Str} {ms : (β : Type) → S → (List D → S → R S β) → R S β}
/-- a call's answer within the caller's state -/
def backS (put : S → Src → S) (r : R Src D) (s : S) : R S D := match r with
  | .ok d z => .ok d (put s z)
  | .err x z => .err x (put s z)
  | .stuck => .stuck
@[simp] theorem backS_ok (put : S → Src → S) (d : D) (z : Src) (s : S) : backS put (.ok d z) s = .ok d (put s z) := rfl
@[simp] theorem backS_err (put : S → Src → S) (d : Xc) (z : Src) (s : S) : backS put (.err d z) s = .err d (put s z) := rfl
@[simp] theorem backS_stuck (put : S → Src → S) (s : S) : backS put .stuck s = .stuck := rfl
theorem rep_src {K : PySem.W.Frag} {O : List Addr} {F F' H H' : Hp} {σ : L2.St} {Γ0 : List SV} {i : Nat} {q p : Addr} {s s' : Src} (r : Rep K cs O F σ H Γ0) (h : Γ0[i]? = some (.own (.src q s))) (hv : σ[i]? = some (some (.ref p)))
    (e : Ext [p, q] F H [p, q] F' H') (sm : Same F' H') (hp : F' p = none) (hq : F' q = none) (ow : Own K cs F' H' (.src q s') (.ref p)) : Ext O F H O F' H' ∧ Rep K cs O F' σ H' (Γ0.set i (.own (.src q s'))) := by
  obtain ⟨v', e1, e2, e3⟩ := r.own i _ h
  rw [hv] at e1; cases e1
  have pO : p ∈ O := e3 p (by simp [fp])
  have qO : q ∈ O := e3 q (by simp [fp])
  have nn : ∀ b, b ∉ O → b ∉ [p, q] := fun b hb z => by
    simp only [List.mem_cons, List.not_mem_nil, or_false] at z
    rcases z with rfl | rfl
    · exact hb pO
    · exact hb qO
  refine ⟨⟨e.sF, fun b o h1 h2 => e.sH b o h1 (nn b h2), e.tk, fun b h1 h2 h3 => e.nF b h1 h2 (nn b h3), fun b hb => .inl hb⟩, ?_⟩
  have r1 := r.updOwn (o' := .src q s') (H' := H') h hv ow rfl (fun b u hb h1 => e.sH b u h1 (by simpa [fp] using hb)) e.tk
  refine r1.later e.sF sm (fun b _ u h => h) fun b hb => ?_
  by_cases z1 : b = p
  · rw [z1]; exact hp
  · by_cases z2 : b = q
    · rw [z2]; exact hq
    · exact e.nF b (r.trk b hb) (r.fr b hb) (by simp [z1, z2])
theorem pd_callS {k i : Nat} {f : Addr} {fd : FuncData} {ps : List Str} {g : Src → List D → R Src D} (get : S → Src) (put : S → Src → S) (q : S → Addr) (Fn : FnOk X.prog X.w X.K X.mg X.base (L2.CX X.prog X.w) k f fd ps (spS X.K cs es.length g)) (hr : Room k X.A) (hg : Gl X x) (hm : X.mg x = some (.ref f)) (hk : PySem.W.keepIn X.K (.ref f) = true)
    (hb : Binds X.K fd ps []) (tk : Takes X W) (ho : PE X a (tVar i)) (hG : ∀ s, (Γ s)[i]? = some (.own (.src (q s) (get s)))) (hP : ∀ s z, Γ (put s z) = (Γ s).set i (.own (.src (q s) z))) (ha : PAD X cs W Γ es t ms)
    (hdb : (x == ("__debug__" : Str)) = false := by decide) (he : starEach (a :: es) X.env = (false, eval a X.env) :: starEach es X.env := by rfl) (hpl : (backTo pos (starEach es X.env)).any (·.1) = false := by rfl) :
    PD X cs W Γ (.Call (.Name x p0) (a :: es) [] pos) (tCallS (spS X.K cs es.length g) (fun σ cls d H => W cls d σ H) (tCons (tVar i) t)) (fun s => ms D s fun ds s1 => backS put (g (get s1) ds) s1) := by
  refine ⟨pe_callS Fn hr hg hm hk hb (fun σ => passAt tk σ) (pa_cons ho ha.pa he) hdb he hpl, fun s O F σ H Q r qq => ?_⟩
  obtain ⟨v0, h1, _, _⟩ := r.own i _ (hG s)
  refine ⟨v0, h1, ?_⟩
  refine ha.de Post.goal r qq fun ds s1 F1 H1 vs e1 r1 d1 l1 q1 => ?_
  obtain ⟨v, h2, ow, hO⟩ := r1.own i _ (hG s1)
  rw [h1] at h2; cases h2
  have hv : ∃ p, v0 = .ref p := by obtain ⟨p, e, _⟩ := ow; exact ⟨p, e⟩
  obtain ⟨p, rfl⟩ := hv
  refine ⟨p, vs, rfl, by rw [d1.length, l1], q s1, get s1, F1, ds, ow, r1.same, r1.fr p (hO p (by simp [fp])), r1.fr (q s1) (hO _ (by simp [fp])), d1, ?_⟩
  cases hgg : g (get s1) ds with
  | ok d z =>
    rw [hgg] at q1
    intro F' H' v e sm hp hq ow' dv
    obtain ⟨x1, x2⟩ := rep_src r1 (hG s1) h1 e sm hp hq ow'
    rw [← hP] at x2
    exact q1 F' H' v x1 x2 dv
  | err xc z =>
    rw [hgg] at q1
    intro F' H' cls dd e sm hp hq ow' xv
    obtain ⟨x1, x2⟩ := rep_src r1 (hG s1) h1 e sm hp hq ow'
    rw [← hP] at x2
    exact q1 F' H' cls dd x1 x2 xv
  | stuck => rw [hgg] at q1; exact q1
end
section
variable {P : Program} {w : World} {K : PySem.W.Frag} {mg : Str → Option Value} {base : Heap} {cs : Cs}
theorem rep_srcs {F H : Hp} {p q : Addr} {s : Src} {vs : List V} {ds : List D} (e : Same F H) (h : DVs K cs F vs ds) (n : Nat) (ow : Own K cs F H (.src q s) (.ref p)) (hp : F p = none) (hq : F q = none) :
    Rep K cs [p, q] F (some (.ref p) :: (vs.map some ++ List.replicate n none)) H (.own (.src q s) :: (ds.map .dat ++ List.replicate n .unk)) := by
  have r := rep_pure (K := K) (cs := cs) e h n
  refine ⟨e, by simp [h.length], fun i d hi => ?_, fun i o hi => ?_, fun i j o o' v v' hij hi hj => ?_, fun b hb => ?_, fun b hb => ?_⟩
  · cases i with
    | zero => simp at hi
    | succ i => exact r.dat i d (by simpa using hi)
  · cases i with
    | zero => simp at hi; subst hi; exact ⟨_, rfl, ow, fun b hb => by simpa [fp] using hb⟩
    | succ i =>
      obtain ⟨v, h1, h2, h3⟩ := r.own i o (by simpa using hi)
      exfalso
      have hi' : (ds.map SV.dat ++ List.replicate n .unk)[i]? = some (.own o) := by simpa using hi
      by_cases hl : i < ds.length
      · rw [List.getElem?_append_left (by simpa using hl), List.getElem?_map] at hi'
        cases hd : ds[i]? with
        | none => rw [hd] at hi'; cases hi'
        | some d' => rw [hd] at hi'; cases hi'
      · rw [List.getElem?_append_right (by simpa using hl), List.getElem?_replicate] at hi'
        split at hi' <;> cases hi'
  · have no : ∀ (k : Nat) (o : OV), (SV.own (.src q s) :: (ds.map .dat ++ List.replicate n .unk))[k]? = some (.own o) → k = 0 := fun k o hk => by
      cases k with
      | zero => rfl
      | succ i =>
        exfalso
        have hi' : (ds.map SV.dat ++ List.replicate n .unk)[i]? = some (.own o) := by simpa using hk
        by_cases hl : i < ds.length
        · rw [List.getElem?_append_left (by simpa using hl), List.getElem?_map] at hi'
          cases hd : ds[i]? with
          | none => rw [hd] at hi'; cases hi'
          | some d' => rw [hd] at hi'; cases hi'
        · rw [List.getElem?_append_right (by simpa using hl), List.getElem?_replicate] at hi'
          split at hi' <;> cases hi'
    exact absurd ((no i o hi).trans (no j o' hj).symm) hij
  · simp only [List.mem_cons, List.not_mem_nil, or_false] at hb
    rcases hb with rfl | rfl
    · exact hp
    · exact hq
  · have := ow.trk b (by simpa [fp] using hb)
    exact this
theorem fnSr {x qual : Str} {st : Stmt} {f : Addr} {fd : FuncData} {N ps : List Str} {k : Nat} {g : Src → List D → R Src D} {x0 : Str} (Fn : Fun K x qual st f fd) (Sc : FnScope N (x0 :: ps) (defScope st))
    (hb : ∀ (cdv : Value) (A : Around) (outer : List Env) (s : Shared) (H : Hp) (E : XK), Room k (A.deeper (envOfC qual (defScope st) s.heap.objs.size f cdv)) → ∀ (q : Addr) (ds : List D), ds.length = ps.length →
      ∃ (t : TS) (m : BM Src Unit Empty), PB (cxOf (L2.CX P w) P w K mg base N qual (defScope st) f cdv A outer s H E) cs (wE E) (some (0, fun s => .src q s)) (fun s => .own (.src q s) :: (ds.map .dat ++ List.replicate (N.length - (ps.length + 1)) .unk)) (defBody st) t
          (fun _ s => .own (.src q s) :: List.replicate (N.length - 1) .unk) (fun t => nomatch t) m ∧
        ∀ s, g s ds = m D s (fun d s => .ok d s) (fun _ s => .ok .non s) (fun t => nomatch t) (fun t => nomatch t)) : FnOk P w K mg base (L2.CX P w) (k + 1) f fd (x0 :: ps) (spS K cs ps.length g) := by
  refine Fn.okX Sc (fun vs H Q E h => by obtain ⟨p, ws, rfl, hl, _⟩ := h; simp [hl]) fun cdv A outer s H vs Q E hr h => ?_
  obtain ⟨p, ws, rfl, hl, q, z, F, ds, ow, sm, hp, hq, dv, qq⟩ := h
  obtain ⟨t, m, pb, em⟩ := hb cdv A outer s H E hr q ds (by rw [← dv.length]; exact hl)
  refine ⟨t, pb.ps, ?_⟩
  rw [em] at qq
  have eσ : L2.start N (.ref p :: ws) = some (.ref p) :: (ws.map some ++ List.replicate (N.length - (ps.length + 1)) none) := by
    unfold L2.start
    simp [hl]
  have r0 := rep_srcs (K := K) (cs := cs) sm dv (N.length - (ps.length + 1)) ow hp hq
  rw [← eσ] at r0
  have hh : Own K cs F H (.src q z) (.ref p) := ow
  have key : ∀ {O' : List Addr} {F' H' : Hp} {σ' : L2.St} {Γ' : List SV} {s' : Src}, RepF K cs ⟨[0], L2.start N (.ref p :: ws)⟩ O' F' σ' H' Γ' → Has (some (0, fun s => OV.src q s)) Γ' s' → Same F' H' ∧ F' p = none ∧ F' q = none ∧ Own K cs F' H' (.src q s') (.ref p) := fun {O' F' H' σ' Γ' s'} r h => by
    obtain ⟨v, h1, h2, h3⟩ := r.rep.own 0 _ h
    have := r.slots 0 (by simp)
    rw [h1, eσ] at this
    have ev : v = .ref p := by simpa using this
    subst ev
    exact ⟨r.rep.same, r.rep.fr p (h3 p (by simp [fp])), r.rep.fr q (h3 q (by simp [fp])), h2⟩
  have ext : ∀ {O' : List Addr} {F' H' : Hp}, Ext [p, q] F H O' F' H' → Ext [p, q] F H [p, q] F' H' := fun e => ⟨e.sF, e.sH, e.tk, e.nF, fun b hb => .inl hb⟩
  refine pb.de (β := D) (fc := ⟨[0], L2.start N (.ref p :: ws)⟩) (G := fun O F1 H1 r => Ext [p, q] F H O F1 H1 ∧ PostS K cs F H Q E p q r) ⟨fun a e => ⟨a.1.trans e, a.2⟩, fun a => a.2, fun a r h x => ?_⟩ rfl (s := z) (O := [p, q]) (F := F) ⟨r0, fun j hj => rfl⟩ ⟨Ext.refl _ _ _, qq⟩
    ⟨fun d s' O' F' σ' H' v Γ' e r h dv' a => ?_, fun _ s' O' F' σ' H' e r a => ?_, (fun t => nomatch t), (fun t => nomatch t)⟩
  · obtain ⟨k1, k2, k3, k4⟩ := key r h
    exact a.2 _ _ _ _ (ext a.1) k1 k2 k3 k4 x
  · obtain ⟨k1, k2, k3, k4⟩ := key r h
    exact a.2 _ _ _ (ext a.1) k1 k2 k3 k4 dv'
  · obtain ⟨k1, k2, k3, k4⟩ := key r (s' := s') (by show (SV.own (.src q s') :: _)[0]? = _; rfl)
    exact a.2 _ _ _ (ext a.1) k1 k2 k3 k4 .non
end
end HD
set_option maxRecDepth 100000
set_option maxHeartbeats 4000000
namespace HD
open PySem PySem.Spec PyProof.Rows L2

/-! ### the source, plainly -/
def drain : Nat → List Int → Int → List Int × Int
  | 0, cs, l => (cs, l)
  | n + 1, cs, l => if l < 2 ∧ 0 < cs.length then drain n cs.dropLast (cs.getLast?.getD 0) else (cs, l)
def pickF (s : Src) (m : Int) : Option (Int × Src) :=
  if m < 2 then some (0, s) else if 10000000 < m then none else
  let (cs, l) := drain s.cells.length s.cells s.left
  if 1 < l then some (l % m, ⟨cs, l / m, s.mixed, s.turn⟩) else
    let t := s.turn + 1
    let x := (s.mixed + t * 104729) % 998244353
    let y := (x * x + t * 17) % 2147483647
    some ((y / 16) % m, ⟨cs, l, s.mixed, t⟩)
theorem pick_range {s s' : Src} {m k : Int} (h : pickF s m = some (k, s')) : 0 ≤ k ∧ (k < m ∨ k = 0) := by
  unfold pickF at h
  split at h
  · cases h; omega
  · rename_i h1
    split at h
    · cases h
    · dsimp only at h
      split at h
      · cases h
        exact ⟨Int.emod_nonneg _ (by omega), .inl (Int.emod_lt_of_pos _ (by omega))⟩
      · cases h
        exact ⟨Int.emod_nonneg _ (by omega), .inl (Int.emod_lt_of_pos _ (by omega))⟩
theorem pick_some (s : Src) {m : Int} (h : m ≤ 10000000) : ∃ k s', pickF s m = some (k, s') := by
  unfold pickF
  split
  · exact ⟨_, _, rfl⟩
  · rw [if_neg (by omega)]
    dsimp only
    split
    · exact ⟨_, _, rfl⟩
    · exact ⟨_, _, rfl⟩
def pickG (s : Src) (ds : List D) : R Src D := match ds with
  | [.int m] => match pickF s m with
    | some (k, s') => .ok (.int k) s'
    | none => .stuck
  | _ => .stuck
/-- the source's dict -/
def srcO (q : Addr) (l m t : Int) : HO := .dK [(.inr "cells", .ref q), (.inr "left", .int l), (.inr "mixed", .int m), (.inr "turn", .int t)]
theorem kl1 : ¬ ("cells" : Str) = "left" := by decide +kernel
theorem kl2 : ¬ ("mixed" : Str) = "left" := by decide +kernel
theorem kl3 : ¬ ("turn" : Str) = "left" := by decide +kernel
theorem kt1 : ¬ ("cells" : Str) = "turn" := by decide +kernel
theorem kt2 : ¬ ("left" : Str) = "turn" := by decide +kernel
theorem kt3 : ¬ ("mixed" : Str) = "turn" := by decide +kernel
theorem km1 : ¬ ("cells" : Str) = "mixed" := by decide +kernel
theorem km2 : ¬ ("left" : Str) = "mixed" := by decide +kernel
abbrev srcL (q : Addr) (l m t : Int) : List (Key × V) := [((.inr "cells" : Key), V.ref q), (.inr "left", .int l), (.inr "mixed", .int m), (.inr "turn", .int t)]
theorem srcL_putl {q : Addr} {l l' m t : Int} : putK (srcL q l m t) (.inr "left") (.int l') = srcL q l' m t := by
  simp [putK, kl1, kl2, kl3]
theorem srcL_putt {q : Addr} {l t' m t : Int} : putK (srcL q l m t) (.inr "turn") (.int t') = srcL q l m t' := by
  simp [putK, kt1, kt2, kt3]
theorem srcL_c {q : Addr} {l m t : Int} : valV (srcL q l m t) (.inr "cells") = some (.ref q) := valV_pos rfl
theorem srcL_l {q : Addr} {l m t : Int} : valV (srcL q l m t) (.inr "left") = some (.int l) := by simp [valV, kl1]
theorem srcL_m {q : Addr} {l m t : Int} : valV (srcL q l m t) (.inr "mixed") = some (.int m) := by simp [valV, km1, km2]
theorem srcL_t {q : Addr} {l m t : Int} : valV (srcL q l m t) (.inr "turn") = some (.int t) := by simp [valV, kt1, kt2, kt3]
theorem getC {H : Hp} {p q : Addr} {l m t : Int} (e : H p = some (.dK (srcL q l m t))) : DGet H p (.str "cells") (some (.ref q)) := by
  have := DGet.k (k := .inr "cells") e; rw [srcL_c] at this; exact this
theorem getL {H : Hp} {p q : Addr} {l m t : Int} (e : H p = some (.dK (srcL q l m t))) : DGet H p (.str "left") (some (.int l)) := by
  have := DGet.k (k := .inr "left") e; rw [srcL_l] at this; exact this
theorem getM {H : Hp} {p q : Addr} {l m t : Int} (e : H p = some (.dK (srcL q l m t))) : DGet H p (.str "mixed") (some (.int m)) := by
  have := DGet.k (k := .inr "mixed") e; rw [srcL_m] at this; exact this
theorem getT {H : Hp} {p q : Addr} {l m t : Int} (e : H p = some (.dK (srcL q l m t))) : DGet H p (.str "turn") (some (.int t)) := by
  have := DGet.k (k := .inr "turn") e; rw [srcL_t] at this; exact this
theorem putL {H : Hp} {p q : Addr} {l l' m t : Int} (e : H p = some (.dK (srcL q l m t))) : DPut H p (.str "left") (.int l') (upd H p (.dK (srcL q l' m t))) := by
  have := DPut.k (k := .inr "left") (v := .int l') e (small1000 (by simp)); rw [srcL_putl] at this; exact this
theorem putT {H : Hp} {p q : Addr} {l t' m t : Int} (e : H p = some (.dK (srcL q l m t))) : DPut H p (.str "turn") (.int t') (upd H p (.dK (srcL q l m t'))) := by
  have := DPut.k (k := .inr "turn") (v := .int t') e (small1000 (by simp)); rw [srcL_putt] at this; exact this
/-- what stands while a number is picked: nothing but the source has changed -/
structure AtS (F H0 : Hp) (p q : Addr) (cs : List Int) (l m t : Int) (H : Hp) : Prop where
  d : H p = some (.dK (srcL q l m t))
  c : H q = some (.lst (cs.map .int))
  keep : ∀ b, b ≠ p → b ≠ q → H b = H0 b
  ne : p ≠ q
theorem AtS.pop {F H0 H : Hp} {p q : Addr} {cs : List Int} {l m t l' : Int} (a : AtS F H0 p q cs l m t H) : AtS F H0 p q cs.dropLast l' m t (upd (upd H q (.lst (cs.dropLast.map .int))) p (.dK (srcL q l' m t))) :=
  ⟨upd_same, by rw [upd_ne a.ne.symm, upd_same], fun b h1 h2 => by rw [upd_ne h1, upd_ne h2]; exact a.keep b h1 h2, a.ne⟩
theorem AtS.left {F H0 H : Hp} {p q : Addr} {cs : List Int} {l m t l' t' : Int} (a : AtS F H0 p q cs l m t H) : AtS F H0 p q cs l' m t' (upd H p (.dK (srcL q l' m t'))) :=
  ⟨upd_same, by rw [upd_ne a.ne.symm]; exact a.c, fun b h1 h2 => by rw [upd_ne h1]; exact a.keep b h1 h2, a.ne⟩
theorem AtS.fin {K : PySem.W.Frag} {cs0 : Cs} {F H0 H : Hp} {p q : Addr} {cs : List Int} {l m t : Int} (a : AtS F H0 p q cs l m t H) (sm : Same F H0) (hp : F p = none) (hq : F q = none) (tp : H0 p ≠ none) (tq : H0 q ≠ none) :
    Ext [p, q] F H0 [p, q] F H ∧ Same F H ∧ Own K cs0 F H (.src q ⟨cs, l, m, t⟩) (.ref p) := by
  have kp : ∀ b o, H0 b = some o → b ∉ [p, q] → H b = some o := fun b o h n => by
    simp only [List.mem_cons, List.not_mem_nil, or_false, not_or] at n
    rw [a.keep b n.1 n.2]; exact h
  refine ⟨⟨Same.refl _, kp, fun b h => ?_, fun b _ h _ => h, fun b hb => .inl hb⟩, fun b o h => ?_, p, rfl, a.d, a.c⟩
  · by_cases h1 : b = p
    · rw [h1, a.d]; simp
    · by_cases h2 : b = q
      · rw [h2, a.c]; simp
      · rw [a.keep b h1 h2]; exact h
  · exact kp b o (sm b o h) (by
      simp only [List.mem_cons, List.not_mem_nil, or_false, not_or]
      exact ⟨ne_of_none h hp, ne_of_none h hq⟩)
/-- left < 2 and len(cells) > 0 -/
theorem read_cond {K : PySem.W.Frag} {F H H1 : Hp} {p q : Addr} {c : List Int} {l m t : Int} {σ : L2.St} {Q : Bool → Hp → Prop} (a : AtS F H p q c l m t H1) (e0 : σ[0]? = some (some (.ref p))) (e2 : σ[2]? = some (some (.ref q)))
    (h : Q (decide (l < 2 ∧ 0 < c.length)) H1) : tAnd (tTest (tOp (rI0 fun i j => .bl (decide (i < j))) (tDGet (tVar 0) (tC (.str "left"))) (tC (.int 2)))) (tTest (tOp (rI0 fun i j => .bl (decide (j < i))) (tCB (rLenA K) (tCons (tVar 2) tNil)) (tC (.int 0)))) σ H1 Q := by
  refine ⟨_, e0, p, _, rfl, getL a.d, _, _, rfl, rfl, _, rfl, ?_⟩
  show if decide (l < 2) = true then _ else _
  by_cases h1 : l < 2
  · rw [if_pos (decide_eq_true h1)]
    refine ⟨_, e2, .inl ⟨_, c.length, rfl, .inl ⟨_, SqL.of a.c, by simp⟩, ?_⟩⟩
    refine ⟨_, _, rfl, rfl, _, rfl, ?_⟩
    have : decide (l < 2 ∧ 0 < c.length) = decide ((0 : Int) < (c.length : Int)) := by
      by_cases h2 : 0 < c.length
      · rw [decide_eq_true (show l < 2 ∧ 0 < c.length from ⟨h1, h2⟩), decide_eq_true (by omega)]
      · rw [decide_eq_false (fun z => h2 z.2), decide_eq_false (by omega)]
    rw [this] at h
    exact h
  · rw [if_neg (by simpa using h1)]
    have : decide (l < 2 ∧ 0 < c.length) = false := by simp [h1]
    rw [this] at h
    exact h
theorem drain_stop {c : List Int} {l : Int} (h : ¬ (l < 2 ∧ 0 < c.length)) : drain c.length c l = (c, l) := by
  cases e : c.length with
  | zero => rfl
  | succ n => unfold drain; rw [if_neg h]
theorem drain_go {c : List Int} {l : Int} (h : l < 2 ∧ 0 < c.length) : drain c.length c l = drain c.dropLast.length c.dropLast (c.getLast?.getD 0) := by
  have e : c.length = c.dropLast.length + 1 := by rw [List.length_dropLast]; omega
  rw [e]
  conv => lhs; unfold drain
  rw [if_pos h]
theorem last_int {c : List Int} (h : 0 < c.length) : (c.map V.int)[(c.map V.int).length - 1]? = some (.int (c.getLast?.getD 0)) := by
  rw [List.getElem?_map, List.length_map]
  have : c[c.length - 1]? = some (c.getLast?.getD 0) := by
    rw [List.getLast?_eq_getElem?]
    have : c[c.length - 1]? = some c[c.length - 1] := List.getElem?_eq_getElem (by omega)
    rw [this]; rfl
  rw [this]; rfl
end HD
set_option maxRecDepth 100000
set_option maxHeartbeats 4000000
namespace HD
open PySem PySem.Spec PyProof.Rows L2
section
variable {S : Type} {X : Cx} {cs : Cs} {W : WX} {Γ : S → List SV}
variable {elt tg iter : Expr} {ifs : List Expr} {scope : Scope} {own : List (Str × Nat)} {pos spos : Pos} {wi : TI} {g : TG} {tt : TT} {te : TE} {mi : S → R S (List D)} {Y : Type} {pat : D → Option Y} {bind : Y → List SV → List SV} {is : List Nat} {mt : Y → S → R S Bool} {me : Y → S → R S D}
/-- the part of a comprehension that knows no context -/
theorem lcF_de (hi : ∀ s O F σ H Q, Rep X.K cs O F σ H (Γ s) → PostI X.K cs W Γ O σ Q F H (mi s) → wi σ H Q) (hg : PGD X cs tg g pat bind is) (hv : ∀ i ∈ is, i ∈ own.map (·.2)) (Γx : Y → S → List SV) (hb : ∀ y s, bind y (wG (Γ s) (own.map (·.2))) = Γx y s) (hw : ∀ y s, wG (Γx y s) (own.map (·.2)) = wG (Γ s) (own.map (·.2)))
    (ht : ∀ y s O F σ H Q, Rep X.K cs O F σ H (Γx y s) → PostT X.K cs wF (Γx y) O σ Q F H (mt y s) → tt σ H Q) (he : ∀ y s O F σ H Q, Rep X.K cs O F σ H (Γx y s) → Post rDV X.K cs wF (Γx y) O σ Q F H (me y s) → te σ H Q)
    (hu : ∀ s O F F' H H' σ s', Rep X.K cs O F σ H (Γ s) → Same F F' → Rep X.K cs O F' (wipe σ (own.map (·.2))) H' (wG (Γ s') (own.map (·.2))) → Rep X.K cs O F' σ H' (Γ s')) :
    ∀ s O F σ H Q, Rep X.K cs O F σ H (Γ s) → PostF X.K cs W Γ O σ Q F H ((mi s).bind fun ds s1 => lcA ds [] s1 (fun x s2 => patR (pat x) fun y => (mt y s2).bind fun b s3 => if b then (me y s3).bind fun d s4 => .ok (some d) s4 else .ok none s3)) → tLc wi g tt te (own.map (·.2)) σ H Q := by
  intro s O F σ H Q r q
  refine hi s O F σ H _ r ?_
  cases hm : mi s with
  | stuck => rw [hm] at q; exact q
  | err x s' => rw [hm] at q; exact q
  | ok ds s1 =>
    rw [hm] at q
    intro F1 H1 J e1 r1 wd p hp
    have q1 := Goal.mono PostF.goal q e1
    simp only [R.bind_ok] at q1
    have ng : ∀ b, H1 b ≠ none → b ≠ p := fun b h z => h (by rw [z]; exact hp)
    have fp0 : F1 p = none := r1.same.free hp
    have pO : p ∉ O := fun z => r1.trk p z hp
    have x0 : Ext O F1 H1 O F1 (upd H1 p (.lst [])) := ⟨Same.refl _, fun b o h _ => by rw [upd_ne (ng b (by rw [h]; simp))]; exact h, fun b h => by rw [upd_ne (ng b h)]; exact h, fun b _ h _ => h, fun _ h => .inl h⟩
    have r0 : Rep X.K cs O F1 σ (upd H1 p (.lst [])) (Γ s1) := r1.later (Same.refl _) (fun b u h => by rw [upd_ne (ne_of_none h fp0)]; exact r1.same b u h) (fun b hb u h => by rw [upd_ne (ng b (by rw [h]; simp))]; exact h) r1.fr
    -- the walk
    refine ⟨fun i m H2 => m = ds.length - i ∧ i ≤ ds.length ∧ ∃ acc vs s2 F2, Ext O F1 H1 O F2 H2 ∧ Rep X.K cs O F2 σ H2 (Γ s2) ∧ H2 p = some (.lst vs) ∧ F2 p = none ∧ DVs X.K cs F2 vs acc ∧
        PostF X.K cs W Γ O σ Q F1 H1 (lcA (ds.drop i) acc s2 (fun x s2 => patR (pat x) fun y => (mt y s2).bind fun b s3 => if b then (me y s3).bind fun d s4 => .ok (some d) s4 else .ok none s3)),
      ⟨_, rfl, Nat.zero_le _, [], [], s1, F1, x0, r0, upd_same, fp0, .nil, q1⟩, ?_⟩
    rintro i m H2 ⟨rfl, hle, acc, vs, s2, F2, e2, r2, h2, f2, d2, q2⟩
    obtain ⟨w1, w2⟩ := wd F2 H2 e2.sF r2.same i
    by_cases hlt : i < ds.length
    · have hd : ds[i]? = some ds[i] := List.getElem?_eq_getElem hlt
      obtain ⟨go, yl⟩ := w1 _ hd
      rw [List.drop_eq_getElem_cons hlt] at q2
      rw [lcA] at q2
      refine .inr ⟨go, fun H3 => ∃ acc vs s3 F3, Ext O F1 H1 O F3 H3 ∧ Rep X.K cs O F3 σ H3 (Γ s3) ∧ H3 p = some (.lst vs) ∧ F3 p = none ∧ DVs X.K cs F3 vs acc ∧
          PostF X.K cs W Γ O σ Q F1 H1 (lcA (ds.drop (i + 1)) acc s3 (fun x s2 => patR (pat x) fun y => (mt y s2).bind fun b s3 => if b then (me y s3).bind fun d s4 => .ok (some d) s4 else .ok none s3)),
        fun H3 h3 => ⟨ds.length - (i + 1), by omega, rfl, hlt, h3⟩, fun x H3 y => ?_⟩
      obtain ⟨F3, g3, dx⟩ := yl x H3 y
      have r3 := g3.rep r2
      cases hpat : pat ds[i] with
      | none => rw [hpat] at q2; exact q2.elim
      | some y =>
        rw [hpat] at q2
        simp only [patR_some] at q2
        have p3 : H3 p = some (.lst vs) := g3.sH _ _ h2
        have f3 : F3 p = none := g3.nF p (by rw [h2]; simp) f2
        have e3 := e2.trans (g3.ext O)
        have rw3 := r3.wipe (own.map (·.2))
        refine hg.de (fc := ⟨[], []⟩) hpat ⟨rw3, (fun _ z => nomatch z)⟩ (fun _ _ z => nomatch z) dx fun σ4 r4 hl4 hs4 => ?_
        have ew : wipe σ4 (own.map (·.2)) = wipe σ (own.map (·.2)) := by
          have z1 : wipe σ4 (own.map (·.2)) = wipe (wipe σ (own.map (·.2))) (own.map (·.2)) := wipe_ext hl4 fun j hj => hs4 j fun z => hj (hv j z)
          rw [z1]
          exact wipe_ext (wipe_length _ _) fun j hj => wipe_keep hj
        refine ⟨ew, ?_⟩
        have r5 : Rep X.K cs O F3 σ4 H3 (Γx y s2) := by
          have := r4.rep
          rw [hb] at this; exact this
        have back : ∀ {s' F' H'}, Same F3 F' → Rep X.K cs O F' σ4 H' (Γx y s') → Rep X.K cs O F' σ H' (Γ s') := fun {s' F' H'} sf r' => by
          have z := r'.wipe (own.map (·.2))
          rw [ew, hw] at z
          exact hu s2 O F3 F' H3 H' σ s' r3 sf z
        refine ht y s2 O F3 σ4 H3 _ r5 ?_
        cases hmt : mt y s2 with
        | stuck => rw [hmt] at q2; exact q2.elim
        | err x' s' => rw [hmt] at q2; exact q2.elim
        | ok b s3 =>
          rw [hmt] at q2
          simp only [R.bind_ok] at q2
          intro F5 H5 e5 r6
          have p5 : H5 p = some (.lst vs) := e5.sH _ _ p3 pO
          have f5 : F5 p = none := e5.nF p (by rw [p3]; simp) f3 pO
          cases b with
          | false =>
            simp only [Bool.false_eq_true, if_false, noErr_ok, R.bind_ok] at q2 ⊢
            exact ⟨acc, vs, s3, F5, e3.trans e5, back e5.sF r6, p5, f5, d2.mono (g3.sF.trans e5.sF), q2⟩
          | true =>
            simp only [if_true] at q2 ⊢
            refine he y s3 O F5 σ4 H5 _ r6 ?_
            cases hme : me y s3 with
            | stuck => rw [hme] at q2; exact q2.elim
            | err x' s' => rw [hme] at q2; exact q2.elim
            | ok d s4 =>
              rw [hme] at q2
              simp only [noErr_ok, R.bind_ok] at q2
              intro F6 H6 z e6 r7 dz
              have p6 : H6 p = some (.lst vs) := e6.sH _ _ p5 pO
              have f6 : F6 p = none := e6.nF p (by rw [p5]; simp) f5 pO
              by_cases hacc : acc.length < 1000000
              · rw [if_pos hacc] at q2
                have d6 : DVs X.K cs F6 vs acc := d2.mono (g3.sF.trans (e5.sF.trans e6.sF))
                have r8 : Rep X.K cs O F6 σ H6 (Γ s4) := back (e5.sF.trans e6.sF) r7
                have ne6 : ∀ b o, F6 b = some o → b ≠ p := fun b o h z => by rw [z, f6] at h; cases h
                have e8 : Ext O F1 H1 O F6 H6 := (e3.trans e5).trans e6
                refine ⟨vs, p6, lim_lt (by rw [d6.length]; omega), acc ++ [d], vs ++ [z], s4, F6, ⟨e8.sF, fun b o h n => ?_, fun b h => ?_, e8.nF, e8.nO⟩, r8.later (Same.refl _) (fun b u h => ?_) (fun b hb u h => ?_) r8.fr, upd_same, f6, d6.app (.cons dz .nil), q2⟩
                · rw [upd_ne (ng b (by rw [h]; simp))]; exact e8.sH b o h n
                · rw [upd_ne (ng b h)]; exact e8.tk b h
                · rw [upd_ne (ne6 b u h)]; exact r8.same b u h
                · rw [upd_ne (fun q => pO (by rw [← q]; exact hb))]; exact h
              · rw [if_neg hacc] at q2; exact q2.elim
    · have e : i = ds.length := by omega
      refine .inl ⟨w2 e, ?_⟩
      subst e
      rw [List.drop_length, lcA] at q2
      exact q2 F2 H2 p vs pO ⟨e2.sF, e2.sH, e2.tk, e2.nF, fun b hb => (List.mem_cons.mp hb).elim (fun z => .inr (by rw [z]; exact hp)) fun z => .inl z⟩ r2 h2 f2 d2
abbrev lcL {S Y : Type} (mi : S → R S (List D)) (pat : D → Option Y) (mt : Y → S → R S Bool) (me : Y → S → R S D) : S → R S (List D) := fun s => (mi s).bind fun ds s1 => lcA ds [] s1 (fun x s2 => patR (pat x) fun y => (mt y s2).bind fun b s3 => if b then (me y s3).bind fun d s4 => .ok (some d) s4 else .ok none s3)
theorem pf_lc (y0 : Y) (hc : X.calm = true) (hN : X.N.Nodup) (hi : PID X cs W Γ tg iter wi mi) (ok : BlkOk X.N X.env.scope scope own)
    (hg : ∀ (s : Shared) (H : Hp) (C : Addr) (cl : List (Str × Addr)) (fp : List Addr), PGD (X.blk s H scope (compEnvC scope cl C X.env) fp) cs tg g pat bind is) (hv : ∀ i ∈ is, i ∈ own.map (·.2)) (sd : ∀ s s', Sd (Γ s) (Γ s')) (no : ∀ s, noOwn (Γ s) (own.map (·.2)))
    (ht : ∀ (y : Y) (s : Shared) (H : Hp) (C : Addr) (cl : List (Str × Addr)) (fp : List Addr), PTsD (X.blk s H scope (compEnvC scope cl C X.env) fp) cs wF (fun s => bind y (wG (Γ s) (own.map (·.2)))) ifs tt (mt y))
    (he : ∀ (y : Y) (s : Shared) (H : Hp) (C : Addr) (cl : List (Str × Addr)) (fp : List Addr), PD (X.blk s H scope (compEnvC scope cl C X.env) fp) cs wF (fun s => bind y (wG (Γ s) (own.map (·.2)))) elt te (me y)) (hs : ∀ x, foldedSetIterable iter X.env x = pure x := by intro _; rfl) :
    PF X cs W Γ (.ListComp elt [⟨tg, iter, ifs, 0⟩] scope pos) (tLc wi g tt te (own.map (·.2))) (lcL mi pat mt me) := by
  have G0 := hg {} (fun _ => none) 0 [] []
  refine ⟨pe_lc hc hN hi.pi ok (fun s H C cl fp => (hg s H C cl fp).pg) (fun s H C cl fp => (ht y0 s H C cl fp).pt) (fun s H C cl fp => (he y0 s H C cl fp).pe) hs, ?_⟩
  exact lcF_de (X := X.blk {} (fun _ => none) scope (compEnvC scope [] 0 X.env) []) hi.de G0 hv (fun y s => bind y (wG (Γ s) (own.map (·.2)))) (fun _ _ => rfl) (fun y s => wG_bind G0 hv y (Γ s)) (fun y => (ht y {} (fun _ => none) 0 [] []).de) (fun y => (he y {} (fun _ => none) 0 [] []).de) (unwipe sd no)
end
end HD
set_option maxRecDepth 100000
set_option maxHeartbeats 4000000
namespace HD
open PySem PySem.Spec PyProof.Rows L2

/-! ### comprehensions, plainly -/
theorem lcA_map {S : Type} (h : D → D) (s : S) : ∀ (ds acc : List D) (f : D → S → R S (Option D)), acc.length + ds.length ≤ 1000000 → (∀ x ∈ ds, f x s = .ok (some (h x)) s) → lcA ds acc s f = .ok (acc ++ ds.map h) s
  | [], acc, f, _, _ => by simp [lcA]
  | x :: xs, acc, f, hl, hf => by
    have h1 := hf x (by simp)
    simp only [List.length_cons] at hl
    rw [lcA, h1]
    simp only [noErr_ok, R.bind_ok]
    rw [if_pos (by omega), lcA_map h s xs _ f (by simp; omega) fun y hy => hf y (by simp [hy])]
    simp
/-- called with the script: a new source -/
def spSrc0 (K : PySem.W.Frag) : Sp := fun vs H Q _ => ∃ (a : Addr) (ns : List Int), vs = [.ref a] ∧ SqL K H a (ns.map V.int) ∧ ns.length ≤ 1000 ∧ ∀ (s : Src) (p q : Addr) (H' : Hp), H p = none → H q = none → p ≠ q → Same H H' → H' p = some (.dK (srcL q s.left s.mixed s.turn)) → H' q = some (.lst (s.cells.map .int)) → Q (.ref p) H'
theorem merge_src {q : Addr} {l m t : Int} : mergeK [] (srcL q l m t) = srcL q l m t := by
  have a1 : ¬ ("left" : Str) = "cells" := by decide +kernel
  simp [mergeK, putK, kl1, kt1, kt2, kt3, km1, km2, a1]
/-! ### pieces of a text -/
def nthS (l : List Stmt) (i : Nat) : Stmt := l.getD i (.Pass ⟨0, 0, 0, 0⟩)
def noE : Expr := .Name "" ⟨0, 0, 0, 0⟩
def retE : Stmt → Expr
  | .Return (some e) _ => e
  | _ => noE
def dictV : Expr → Nat → Expr
  | .Dict _ vs _, i => vs.getD i noE
  | _, _ => noE
section
variable {S : Type} {X : Cx} {cs : Cs} {W : WX} {Γ : S → List SV}
variable {elt tg iter : Expr} {ifs : List Expr} {scope : Scope} {own : List (Str × Nat)} {pos spos : Pos} {wi : TI} {g : TG} {tt : TT} {te : TE} {mi : S → R S (List D)} {Y : Type} {pat : D → Option Y} {bind : Y → List SV → List SV} {is : List Nat} {mt : Y → S → R S Bool} {me : Y → S → R S D}
theorem pd_lcB {g' : Shared → Hp → Addr → List (Str × Addr) → List Addr → TG} {tt' : Shared → Hp → Addr → List (Str × Addr) → List Addr → TT} {te' : Shared → Hp → Addr → List (Str × Addr) → List Addr → TE} (y0 : Y) (hc : X.calm = true) (hN : X.N.Nodup) (hi : PID X cs W Γ tg iter wi mi) (ok : BlkOk X.N X.env.scope scope own)
    (hg : ∀ (s : Shared) (H : Hp) (C : Addr) (cl : List (Str × Addr)) (fp : List Addr), PGD (X.blk s H scope (compEnvC scope cl C X.env) fp) cs tg (g' s H C cl fp) pat bind is) (hv : ∀ i ∈ is, i ∈ own.map (·.2)) (sd : ∀ s s', Sd (Γ s) (Γ s')) (no : ∀ s, noOwn (Γ s) (own.map (·.2)))
    (ht : ∀ (y : Y) (s : Shared) (H : Hp) (C : Addr) (cl : List (Str × Addr)) (fp : List Addr), PTsD (X.blk s H scope (compEnvC scope cl C X.env) fp) cs wF (fun s => bind y (wG (Γ s) (own.map (·.2)))) ifs (tt' s H C cl fp) (mt y))
    (he : ∀ (y : Y) (s : Shared) (H : Hp) (C : Addr) (cl : List (Str × Addr)) (fp : List Addr), PD (X.blk s H scope (compEnvC scope cl C X.env) fp) cs wF (fun s => bind y (wG (Γ s) (own.map (·.2)))) elt (te' s H C cl fp) (me y))
    (eg : ∀ (s : Shared) (H : Hp) (C : Addr) (cl : List (Str × Addr)) (fp : List Addr), g' s H C cl fp = g' {} (fun _ => none) 0 [] [] := by intros; rfl) (et : ∀ (s : Shared) (H : Hp) (C : Addr) (cl : List (Str × Addr)) (fp : List Addr), tt' s H C cl fp = tt' {} (fun _ => none) 0 [] [] := by intros; rfl) (ee : ∀ (s : Shared) (H : Hp) (C : Addr) (cl : List (Str × Addr)) (fp : List Addr), te' s H C cl fp = te' {} (fun _ => none) 0 [] [] := by intros; rfl)
    (hs : ∀ x, foldedSetIterable iter X.env x = pure x := by intro _; rfl) :
    PD X cs W Γ (.ListComp elt [⟨tg, iter, ifs, 0⟩] scope pos) (tLc wi (g' {} (fun _ => none) 0 [] []) (tt' {} (fun _ => none) 0 [] []) (te' {} (fun _ => none) 0 [] []) (own.map (·.2))) (lcM mi pat mt me) := pd_lc y0 hc hN hi ok (fun s H C cl fp => by rw [← eg s H C cl fp]; exact hg s H C cl fp) hv sd no (fun y s H C cl fp => by rw [← et s H C cl fp]; exact ht y s H C cl fp) (fun y s H C cl fp => by rw [← ee s H C cl fp]; exact he y s H C cl fp) hs
theorem pf_lcB {g' : Shared → Hp → Addr → List (Str × Addr) → List Addr → TG} {tt' : Shared → Hp → Addr → List (Str × Addr) → List Addr → TT} {te' : Shared → Hp → Addr → List (Str × Addr) → List Addr → TE} (y0 : Y) (hc : X.calm = true) (hN : X.N.Nodup) (hi : PID X cs W Γ tg iter wi mi) (ok : BlkOk X.N X.env.scope scope own)
    (hg : ∀ (s : Shared) (H : Hp) (C : Addr) (cl : List (Str × Addr)) (fp : List Addr), PGD (X.blk s H scope (compEnvC scope cl C X.env) fp) cs tg (g' s H C cl fp) pat bind is) (hv : ∀ i ∈ is, i ∈ own.map (·.2)) (sd : ∀ s s', Sd (Γ s) (Γ s')) (no : ∀ s, noOwn (Γ s) (own.map (·.2)))
    (ht : ∀ (y : Y) (s : Shared) (H : Hp) (C : Addr) (cl : List (Str × Addr)) (fp : List Addr), PTsD (X.blk s H scope (compEnvC scope cl C X.env) fp) cs wF (fun s => bind y (wG (Γ s) (own.map (·.2)))) ifs (tt' s H C cl fp) (mt y))
    (he : ∀ (y : Y) (s : Shared) (H : Hp) (C : Addr) (cl : List (Str × Addr)) (fp : List Addr), PD (X.blk s H scope (compEnvC scope cl C X.env) fp) cs wF (fun s => bind y (wG (Γ s) (own.map (·.2)))) elt (te' s H C cl fp) (me y))
    (eg : ∀ (s : Shared) (H : Hp) (C : Addr) (cl : List (Str × Addr)) (fp : List Addr), g' s H C cl fp = g' {} (fun _ => none) 0 [] [] := by intros; rfl) (et : ∀ (s : Shared) (H : Hp) (C : Addr) (cl : List (Str × Addr)) (fp : List Addr), tt' s H C cl fp = tt' {} (fun _ => none) 0 [] [] := by intros; rfl) (ee : ∀ (s : Shared) (H : Hp) (C : Addr) (cl : List (Str × Addr)) (fp : List Addr), te' s H C cl fp = te' {} (fun _ => none) 0 [] [] := by intros; rfl)
    (hs : ∀ x, foldedSetIterable iter X.env x = pure x := by intro _; rfl) :
    PF X cs W Γ (.ListComp elt [⟨tg, iter, ifs, 0⟩] scope pos) (tLc wi (g' {} (fun _ => none) 0 [] []) (tt' {} (fun _ => none) 0 [] []) (te' {} (fun _ => none) 0 [] []) (own.map (·.2))) (lcL mi pat mt me) := pf_lc y0 hc hN hi ok (fun s H C cl fp => by rw [← eg s H C cl fp]; exact hg s H C cl fp) hv sd no (fun y s H C cl fp => by rw [← et s H C cl fp]; exact ht y s H C cl fp) (fun y s H C cl fp => by rw [← ee s H C cl fp]; exact he y s H C cl fp) hs
theorem ps_lcB {g' : Shared → Hp → Addr → List (Str × Addr) → List Addr → TG} {tt' : Shared → Hp → Addr → List (Str × Addr) → List Addr → TT} {te' : Shared → Hp → Addr → List (Str × Addr) → List Addr → TE} {i : Nat} {y : Str} {py : Pos} (y0 : Y) (hc : X.calm = true) (hN : X.N.Nodup) (hy : X.N[i]? = some y) (hyl : X.env.scope.names.lookup y = some .local)
    (hsw : swapsWith (.ListComp elt [⟨tg, iter, ifs, 0⟩] scope pos) (some (.Name y py)) spos.line X.env = pure true) (hi : PID X cs W Γ tg iter wi mi) (ok : BlkOk X.N X.env.scope scope own)
    (hg : ∀ (s : Shared) (H : Hp) (C : Addr) (cl : List (Str × Addr)) (fp : List Addr), PGD (X.blk s H scope (compEnvC scope cl C X.env) fp) cs tg (g' s H C cl fp) pat bind is) (hv : ∀ i ∈ is, i ∈ own.map (·.2)) (sd : ∀ s s', Sd (Γ s) (Γ s')) (no : ∀ s, noOwn (Γ s) (own.map (·.2)))
    (ht : ∀ (y : Y) (s : Shared) (H : Hp) (C : Addr) (cl : List (Str × Addr)) (fp : List Addr), PTsD (X.blk s H scope (compEnvC scope cl C X.env) fp) cs wF (fun s => bind y (wG (Γ s) (own.map (·.2)))) ifs (tt' s H C cl fp) (mt y))
    (he : ∀ (y : Y) (s : Shared) (H : Hp) (C : Addr) (cl : List (Str × Addr)) (fp : List Addr), PD (X.blk s H scope (compEnvC scope cl C X.env) fp) cs wF (fun s => bind y (wG (Γ s) (own.map (·.2)))) elt (te' s H C cl fp) (me y))
    (eg : ∀ (s : Shared) (H : Hp) (C : Addr) (cl : List (Str × Addr)) (fp : List Addr), g' s H C cl fp = g' {} (fun _ => none) 0 [] [] := by intros; rfl) (et : ∀ (s : Shared) (H : Hp) (C : Addr) (cl : List (Str × Addr)) (fp : List Addr), tt' s H C cl fp = tt' {} (fun _ => none) 0 [] [] := by intros; rfl) (ee : ∀ (s : Shared) (H : Hp) (C : Addr) (cl : List (Str × Addr)) (fp : List Addr), te' s H C cl fp = te' {} (fun _ => none) 0 [] [] := by intros; rfl)
    (hs : ∀ x, foldedSetIterable iter X.env x = pure x := by intro _; rfl) :
    PS X (.Assign [.Name y py] (.ListComp elt [⟨tg, iter, ifs, 0⟩] scope pos) spos) (tAsg (tLc wi (g' {} (fun _ => none) 0 [] []) (tt' {} (fun _ => none) 0 [] []) (te' {} (fun _ => none) 0 [] []) (own.map (·.2))) (gName i)) := ps_lc y0 hc hN hy hyl hsw hi ok (fun s H C cl fp => by rw [← eg s H C cl fp]; exact hg s H C cl fp) (fun y s H C cl fp => by rw [← et s H C cl fp]; exact ht y s H C cl fp) (fun y s H C cl fp => by rw [← ee s H C cl fp]; exact he y s H C cl fp) hs
end
end HD
namespace HD
open PySem PySem.Spec PyProof.Rows L2
theorem dvs_ints {K : PySem.W.Frag} {cs : Cs} {F : Hp} {vs : List V} {c : List Int} (h : DVs K cs F vs (c.map D.int)) : vs = c.map V.int := by
  induction c generalizing vs with
  | nil => cases h; rfl
  | cons x c ih =>
    cases h with
    | cons h1 h2 => cases h1; rw [ih h2]; rfl
theorem dv_ints {K : PySem.W.Frag} {cs : Cs} {F : Hp} (c : List Int) : DVs K cs F (c.map V.int) (c.map D.int) := by
  induction c with
  | nil => exact .nil
  | cons x c ih => exact .cons (.int x) ih
theorem ixN_nat {n k : Nat} (h : k < n) : L2.ixN n (k : Int) = some k := by
  unfold L2.ixN
  rw [if_pos (by omega)]
  first | (rw [if_pos (by omega)]; simp) | simp [h]
theorem atI_nat {α : Type} {xs : List α} {k : Nat} (h : k < xs.length) : L2.atI xs (k : Int) = xs[k]? := by
  unfold L2.atI
  rw [ixN_nat h]
  rfl
end HD
namespace HD
open PySem PySem.Spec PyProof.Rows L2
theorem yes_if {σ : L2.St} {H : Hp} {A B : Hp → Prop} (h : A H) : tYes σ H (fun b H3 => if b = true then A H3 else B H3) := by
  show (if true = true then A H else B H)
  rw [if_pos rfl]; exact h
end HD
set_option maxRecDepth 100000
set_option maxHeartbeats 4000000
namespace HD
open PySem PySem.Spec PyProof.Rows L2

/-! ### an owned flat list lent for a while -/
mutual
/-- no list of n flat items within -/
def nl (n : Nat) : D → Bool
  | .lst ds => (decide (ds.length ≠ n) || ds.any fun d => !isFlat d) && nls n ds
  | .tup ds => nls n ds
  | .dct ks => nlk n ks
  | .obj _ ds => nls n ds
  | .exc _ ds => nls n ds
  | _ => true
def nls (n : Nat) : List D → Bool
  | [] => true
  | d :: ds => nl n d && nls n ds
def nlk (n : Nat) : List (Key × D) → Bool
  | [] => true
  | (_, d) :: ds => nl n d && nlk n ds
end
section
variable {K : PySem.W.Frag} {cs : Cs} {F : Hp} {p : Addr} {vs0 : List V}
theorem del_get {b : Addr} {o : HO} (h : F b = some o) (n : b ≠ p) : del F p b = some o := by rw [del_ne n]; exact h
theorem flatV_d {v : V} {d : D} (h : DV K cs F v d) (f : flatV v = true) : isFlat d = true := by
  cases h <;> first | rfl | cases f
theorem DV.flat {F' : Hp} {v : V} {d : D} (h : DV K cs F v d) (f : isFlat d = true) : DV K cs F' v d := by
  cases h with
  | non => exact .non
  | bl b => exact .bl b
  | int i => exact .int i
  | str y => exact .str y
  | _ => cases f
theorem DVs.flat {F' : Hp} : ∀ {vs : List V} {ds : List D}, DVs K cs F vs ds → (ds.all isFlat) = true → DVs K cs F' vs ds
  | _, _, .nil, _ => .nil
  | _, _, .cons h t, f => by
    rw [List.all_cons, Bool.and_eq_true] at f
    exact .cons (h.flat f.1) (t.flat f.2)
theorem flats_of : ∀ {vs : List V} {ds : List D}, DVs K cs F vs ds → (∀ v ∈ vs, flatV v = true) → (ds.any fun d => !isFlat d) = false
  | _, _, .nil, _ => rfl
  | _, _, .cons h t, f => by
    rw [List.any_cons, flatV_d h (f _ (by simp)), flats_of t fun v hv => f v (by simp [hv])]
    rfl
mutual
theorem DV.unfz (hp : F p = some (.lst vs0)) (fl : ∀ v ∈ vs0, flatV v = true) : ∀ {v : V} {d : D}, DV K cs F v d → nl vs0.length d = true → DV K cs (del F p) v d
  | _, _, .non, _ => .non
  | _, _, .bl b, _ => .bl b
  | _, _, .int b, _ => .int b
  | _, _, .str b, _ => .str b
  | _, _, .lst h t, e => by
    rw [nl, Bool.and_eq_true] at e
    refine .lst (del_get h fun z => ?_) (DVs.unfz hp fl t e.2)
    rw [z, hp] at h
    cases h
    have e1 := e.1
    rw [flats_of t fl, Bool.or_false, decide_eq_true_eq] at e1
    exact e1 t.length.symm
  | _, _, .tup h t, e => by
    rw [nl] at e
    refine .tup ?_ (DVs.unfz hp fl t e)
    rcases h with (h | ⟨o, h⟩) | h
    · exact .inl (.inl (del_get h fun z => by rw [z, hp] at h; cases h))
    · exact .inl (.inr ⟨o, del_get h fun z => by rw [z, hp] at h; cases h⟩)
    · exact .inr h
  | _, _, .dct h t, e => by
    rw [nl] at e
    exact .dct (del_get h fun z => by rw [z, hp] at h; cases h) (DVk.unfz hp fl t e)
  | _, _, .obj h l t, e => by
    rw [nl] at e
    exact .obj (del_get h fun z => by rw [z, hp] at h; cases h) l (DVs.unfz hp fl t e)
  | _, _, .exc h x l t, e => by
    rw [nl] at e
    refine .exc (del_get h fun z => by rw [z, hp] at h; exact (nomatch (Option.some.inj h : HO.lst vs0 = HO.ext _))) ?_ l (DVs.unfz hp fl t e)
    rcases x with x | ⟨d, fs, x1, x2, x3⟩
    · exact .inl x
    · exact .inr ⟨d, fs, x1, del_get x2 fun z => by rw [z, hp] at x2; exact (nomatch (Option.some.inj x2 : HO.lst vs0 = HO.ext _)), x3⟩
theorem DVs.unfz (hp : F p = some (.lst vs0)) (fl : ∀ v ∈ vs0, flatV v = true) : ∀ {vs : List V} {ds : List D}, DVs K cs F vs ds → nls vs0.length ds = true → DVs K cs (del F p) vs ds
  | _, _, .nil, _ => .nil
  | _, _, .cons h t, e => by
    rw [nls, Bool.and_eq_true] at e
    exact .cons (DV.unfz hp fl h e.1) (DVs.unfz hp fl t e.2)
theorem DVk.unfz (hp : F p = some (.lst vs0)) (fl : ∀ v ∈ vs0, flatV v = true) : ∀ {vs : List (Key × V)} {ds : List (Key × D)}, DVk K cs F vs ds → nlk vs0.length ds = true → DVk K cs (del F p) vs ds
  | _, _, .nil, _ => .nil
  | _, _, .cons h t, e => by
    rw [nlk, Bool.and_eq_true] at e
    exact .cons (DV.unfz hp fl h e.1) (DVk.unfz hp fl t e.2)
end
end
def lendR {S : Type} (r : R S D) (get : S → List D) : R S D := match r with
  | .ok d s => if (get s).all isFlat && nl (get s).length d then .ok d s else .stuck
  | _ => .stuck
theorem flat_all {K : PySem.W.Frag} {cs : Cs} {F : Hp} : ∀ {vs : List V} {ds : List D}, DVs K cs F vs ds → (ds.all isFlat) = true → ∀ v ∈ vs, flatV v = true
  | _, _, .nil, _ => fun _ h => nomatch h
  | _, _, .cons h t, f => fun v hv => by
    rw [List.all_cons, Bool.and_eq_true] at f
    rcases List.mem_cons.mp hv with z | z
    · rw [z]; exact flat_v h f.1
    · exact flat_all t f.2 v z
section
variable {S : Type} {X : Cx} {cs : Cs} {W : WX} {Γ : S → List SV} {e : Expr} {te : TE} {m : S → R S D}
/-- e is judged where the list at i is data; it is a list of one's own again behind it -/
theorem pd_lend {i : Nat} (get : S → List D) (hg : ∀ s, (Γ s)[i]? = some (.own (.lst (get s)))) (sd : ∀ s s', Sd (Γ s) (Γ s')) (ow : ∀ s j o, j ≠ i → (Γ s)[j]? = some (.own o) → ∃ q z, o = .src q z)
    (he : PD X cs W (fun s => (Γ s).set i (.dat (.lst (get s)))) e te m) : PD X cs W Γ e te (fun s => lendR (m s) get) := by
  refine ⟨he.pe, fun s O F σ H Q r q => ?_⟩
  obtain ⟨p, vs, h1, h2, pO, r1, _⟩ := r.fz (hg s)
  have hF : F p = none := r.fr p pO
  refine he.de s _ _ σ H Q r1 ?_
  cases hm : m s with
  | err x s1 => rw [hm] at q; exact q.elim
  | stuck => rw [hm] at q; exact q.elim
  | ok d s1 =>
    rw [hm] at q
    unfold lendR at q
    dsimp only at q
    by_cases hc : ((get s1).all isFlat && nl (get s1).length d) = true
    · rw [if_pos hc] at q
      rw [Bool.and_eq_true] at hc
      intro F' H' v e1 r2 dv
      have hi : i < (Γ s1).length := (List.getElem?_eq_some_iff.mp (hg s1)).1
      obtain ⟨v', g1, g2⟩ := r2.dat i (.lst (get s1)) (List.getElem?_set_self hi)
      rw [h1] at g1
      cases g1
      cases g2 with
      | @lst _ vs1 _ g3 g4 =>
      have fl := flat_all g4 hc.1
      have hlen : vs1.length = (get s1).length := g4.length
      have mem : ∀ b, b ∈ O.filter (fun b => decide (b ≠ p)) ↔ b ∈ O ∧ b ≠ p := fun b => by simp [List.mem_filter]
      have s1' : Same F (del F' p) := fun b o h => by
        rw [del_ne (ne_of_none h hF)]
        exact e1.sF b o (by rw [upd_ne (ne_of_none h hF)]; exact h)
      have sub : Same (del F' p) H' := fun b o h => by
        by_cases z : b = p
        · rw [z, del_same] at h; cases h
        · rw [del_ne z] at h; exact r2.same b o h
      have ex : Ext O F H O (del F' p) H' := ⟨s1', fun b o h n => e1.sH b o h fun z => n ((mem b).mp z).1, e1.tk, fun b a1 a2 n => by
        have np : b ≠ p := fun z => n (by rw [z]; exact pO)
        rw [del_ne np]
        exact e1.nF b a1 (by rw [upd_ne np]; exact a2) fun z => n ((mem b).mp z).1, fun b hb => .inl hb⟩
      have off : ∀ (k : Nat), k ≠ i → ((Γ s1).set i (.dat (.lst (get s1))))[k]? = (Γ s1)[k]? := fun k hk => set_off hk
      have other : ∀ (k : Nat) (o : OV), k ≠ i → (Γ s1)[k]? = some (.own o) → ∃ w, σ[k]? = some (some w) ∧ Own X.K cs (del F' p) H' o w ∧ ∀ b ∈ fp o w, b ∈ O ∧ b ≠ p := fun k o hk ho => by
        obtain ⟨w, a1, a2, a3⟩ := r2.own k o (by rw [off k hk]; exact ho)
        obtain ⟨q0, z0, rfl⟩ := ow s1 k o hk ho
        exact ⟨w, a1, a2, fun b hb => (mem b).mp (a3 b hb)⟩
      refine q (del F' p) H' v ex ⟨sub, ?_, fun k d' hk => ?_, fun k o hk => ?_, fun k l o o' w w' hkl hk hl a1 a2 => ?_, fun b hb => ?_, fun b hb => ?_⟩ (dv.unfz g3 fl (by rw [hlen]; exact hc.2))
      · have := r2.len
        rw [List.length_set] at this
        exact this
      · obtain ⟨w, a1, a2⟩ := r.dat k d' ((sd s s1).dat hk)
        exact ⟨w, a1, a2.mono s1'⟩
      · by_cases z : k = i
        · subst z
          rw [hg s1] at hk
          cases hk
          exact ⟨_, h1, ⟨p, vs1, rfl, r2.same _ _ g3, g4.flat hc.1⟩, fun b hb => by simp [fp] at hb; rw [hb]; exact pO⟩
        · obtain ⟨w, a1, a2, a3⟩ := other k o z hk
          exact ⟨w, a1, a2, fun b hb => (a3 b hb).1⟩
      · by_cases z1 : k = i
        · subst z1
          rw [hg s1] at hk
          cases hk
          rw [h1] at a1
          cases a1
          obtain ⟨w2, b1, b2, b3⟩ := other l o' (Ne.symm hkl) hl
          rw [a2] at b1
          cases b1
          intro b hb hb2
          simp [fp] at hb
          exact (b3 b hb2).2 hb
        · by_cases z2 : l = i
          · subst z2
            rw [hg s1] at hl
            cases hl
            rw [h1] at a2
            cases a2
            obtain ⟨w2, b1, b2, b3⟩ := other k o z1 hk
            rw [a1] at b1
            cases b1
            intro b hb hb2
            simp [fp] at hb2
            exact (b3 b hb).2 hb2
          · exact r2.dis k l o o' w w' hkl (by rw [off k z1]; exact hk) (by rw [off l z2]; exact hl) a1 a2
      · by_cases z : b = p
        · rw [z, del_same]
        · rw [del_ne z]; exact r2.fr b ((mem b).mpr ⟨hb, z⟩)
      · by_cases z : b = p
        · rw [z, r2.same _ _ g3]; simp
        · exact r2.trk b ((mem b).mpr ⟨hb, z⟩)
    · rw [if_neg hc] at q; exact q.elim
end
end HD
set_option maxRecDepth 100000
set_option maxHeartbeats 4000000
namespace HD
open PySem PySem.Spec PyProof.Rows L2
section
variable {S : Type} {X : Cx} {cs : Cs} {W : WX} {Γ : S → List SV} {pos p : Pos} {x : Str}
/-- f() -/
theorem pe_callS0 {CX : CXT} {k : Nat} {f : Addr} {fd : FuncData} {ps : List Str} {sp : Sp} {E : L2.St → XK} (F : FnOk X.prog X.w X.K X.mg X.base CX k f fd ps sp) (hr : Room k X.A) (hg : Gl X x) (hm : X.mg x = some (.ref f)) (hk : PySem.W.keepIn X.K (.ref f) = true) (hb : Binds X.K fd ps []) (hx : ∀ σ, PassesAt CX X σ (E σ))
    (hdb : (x == ("__debug__" : Str)) = false := by decide) : PE X (.Call (.Name x p) [] [] pos) (tCallS sp E tNil) := by
  refine ⟨fun pins s σ H Q I h => ?_⟩
  refine wpAny_Call_Name_kw (ld_glob I hg hm ?_ hdb)
  exact PySem.W.callWith_K0 I.kIn hk (run_fnS (us := []) F hr hb (hx σ) I .nil h)
theorem pd_call0 {k : Nat} {f : Addr} {fd : FuncData} {g : List D → R Unit D} (Fn : FnOk X.prog X.w X.K X.mg X.base (L2.CX X.prog X.w) k f fd [] (spP X.K cs 0 g)) (hr : Room k X.A) (hg : Gl X x) (hm : X.mg x = some (.ref f)) (hk : PySem.W.keepIn X.K (.ref f) = true)
    (hb : Binds X.K fd [] []) (tk : Takes X W) (hdb : (x == ("__debug__" : Str)) = false := by decide) :
    PD X cs W Γ (.Call (.Name x p) [] [] pos) (tCallS (spP X.K cs 0 g) (fun σ cls d H => W cls d σ H) tNil) (fun s => (g []).lift s) := by
  refine ⟨pe_callS0 Fn hr hg hm hk hb (fun σ => passAt tk σ) hdb, fun s O F σ H Q r q => ?_⟩
  exact ⟨rfl, F, [], r.same, .nil, post_call q r⟩
/-- str(e), e an int -/
def strF : D → Option D
  | .int i => if i.natAbs ≤ 1000000 then some (.str (Str.ofString (toString i))) else none
  | _ => none
theorem d_strI : UnD rRV X.K cs (rOne fun xs H Q => ∃ i, xs = [.int i] ∧ i.natAbs.log2 < 1920 ∧ Q (.str (toString i)) H) strF := by
  intro x z hf O F H v Q e hx q
  cases x <;> simp only [strF] at hf <;> try (cases hf; done)
  case int i =>
    split at hf
    · rename_i h
      cases hf
      rcases hx with hx | ⟨p, vs, ds, rfl, hd, _⟩ | ⟨p, vs, ds, rfl, hd, _⟩
      · cases hx
        exact ⟨i, rfl, log_lt h, q F H _ (Grow.refl e) (.str _)⟩
      · cases hd
      · cases hd
    · cases hf
end
theorem boot_tup : bootBuiltins "tuple" = some (.type "tuple") := by decide +kernel
section
variable {S : Type} {X : Cx} {cs : Cs} {Γ : S → List SV}
theorem pp_strT {x : Str} {j : Nat} {pos : Pos} (h : x.length ≤ 20000 := by decide +kernel) : PPart X cs Γ (.Constant (.str x) j pos) (tC (.str x)) true := ⟨pe_str, fun _ s O F σ H Q _ q => q x h⟩
end
end HD
set_option maxRecDepth 100000
set_option maxHeartbeats 4000000
namespace HD
open PySem PySem.Spec PyProof.Rows L2
section
variable {P : Program} {w : World} {K : PySem.W.Frag} {mg : Str → Option Value} {base : Heap} {cs : Cs}
/-- a pure def by its body, wherever its promise is not stuck -/
theorem fnP' {x qual : Str} {st : Stmt} {f : Addr} {fd : FuncData} {N ps : List Str} {k : Nat} {g : List D → R Unit D} (Fn : Fun K x qual st f fd) (Sc : FnScope N ps (defScope st))
    (hb : ∀ (cdv : Value) (A : Around) (outer : List Env) (s : Shared) (H : Hp) (E : XK), Room k (A.deeper (envOfC qual (defScope st) s.heap.objs.size f cdv)) → ∀ ds : List D, ds.length = ps.length → g ds ≠ .stuck →
      ∃ (t : TS) (m : BM Unit Unit Empty), PB (cxOf (L2.CX P w) P w K mg base N qual (defScope st) f cdv A outer s H E) cs (wE E) none (fun _ => ds.map .dat ++ List.replicate (N.length - ps.length) .unk) (defBody st) t (fun _ _ => List.replicate N.length .unk) (fun t => nomatch t) m ∧
        g ds = m D () (fun d s => .ok d s) (fun _ s => .ok .non s) (fun t => nomatch t) (fun t => nomatch t)) : FnOk P w K mg base (L2.CX P w) (k + 1) f fd ps (spP K cs ps.length g) := by
  refine Fn.okX Sc (fun vs H Q E h => h.1) fun cdv A outer s H vs Q E hr h => ?_
  obtain ⟨hl, F, ds, sm, dv, q⟩ := h
  have ns : g ds ≠ .stuck := fun z => by rw [z] at q; exact q
  have hpl : ps.length ≤ N.length := by have := congrArg List.length Sc.pre; rw [List.length_take] at this; omega
  obtain ⟨t, m, pb, em⟩ := hb cdv A outer s H E hr ds (by rw [← dv.length]; exact hl) ns
  refine ⟨t, pb.ps, ?_⟩
  rw [em] at q
  have r0 : Rep K cs [] F (L2.start N vs) H (ds.map .dat ++ List.replicate (N.length - ps.length) .unk) := by
    have := rep_pure (K := K) (cs := cs) sm dv (N.length - ps.length)
    unfold L2.start
    rw [hl]
    exact this
  refine pb.de (β := D) (fc := ⟨[], L2.start N vs⟩) (G := fun O F1 H1 r => Ext [] F H O F1 H1 ∧ PostP K cs F H Q E r) ⟨fun a e => ⟨a.1.trans e, a.2⟩, fun a => a.2, fun a r _ x => ?_⟩ rfl (s := ()) (O := []) (F := F) ⟨r0, (fun _ z => nomatch z)⟩ ⟨Ext.refl _ _ _, q⟩
    ⟨fun d s' O' F' σ' H' v Γ' e r _ dv' a => ?_, fun _ s' O' F' σ' H' e r a => ?_, (fun t => nomatch t), (fun t => nomatch t)⟩
  · exact a.2 _ _ _ _ (a.1.grow r.rep.same) x
  · exact a.2 _ _ _ (a.1.grow r.rep.same) dv'
  · exact a.2 _ _ _ (a.1.grow r.rep.same) .non
theorem fnS' {x qual : Str} {st : Stmt} {f : Addr} {fd : FuncData} {N ps : List Str} {k : Nat} {g : Src → List D → R Src D} {x0 : Str} (Fn : Fun K x qual st f fd) (Sc : FnScope N (x0 :: ps) (defScope st))
    (hb : ∀ (cdv : Value) (A : Around) (outer : List Env) (s : Shared) (H : Hp) (E : XK), Room k (A.deeper (envOfC qual (defScope st) s.heap.objs.size f cdv)) → ∀ (q : Addr) (ds : List D), ds.length = ps.length →
      ∃ (t : TS) (m : BM Src Unit Empty), PB (cxOf (L2.CX P w) P w K mg base N qual (defScope st) f cdv A outer s H E) cs (wE E) (some (0, fun s => .src q s)) (fun s => .own (.src q s) :: (ds.map .dat ++ List.replicate (N.length - (ps.length + 1)) .unk)) (defBody st) t
          (fun _ s => .own (.src q s) :: List.replicate (N.length - 1) .unk) (fun t => nomatch t) m ∧
        ∀ s, g s ds ≠ .stuck → g s ds = m D s (fun d s => .ok d s) (fun _ s => .ok .non s) (fun t => nomatch t) (fun t => nomatch t)) : FnOk P w K mg base (L2.CX P w) (k + 1) f fd (x0 :: ps) (spS K cs ps.length g) := by
  have key : ∀ (g' : Src → List D → R Src D), (∀ s ds, g s ds ≠ .stuck → g' s ds = g s ds) → FnOk P w K mg base (L2.CX P w) (k + 1) f fd (x0 :: ps) (spS K cs ps.length g') → FnOk P w K mg base (L2.CX P w) (k + 1) f fd (x0 :: ps) (spS K cs ps.length g) := fun g' hg F => by
    refine F.imp fun vs H Q E h => ?_
    obtain ⟨p, ws, e, hl, q, z, F, ds, ow, sm, hp, hq, dv, qq⟩ := h
    have ns : g z ds ≠ .stuck := fun z => by rw [z] at qq; exact qq
    exact ⟨p, ws, e, hl, q, z, F, ds, ow, sm, hp, hq, dv, by rw [hg z ds ns]; exact qq⟩
  classical
  exact Fn.okX Sc (fun vs H Q E h => by obtain ⟨p, ws, rfl, hl, _⟩ := h; simp [hl]) fun cdv A outer s H vs Q E hr h => by
    obtain ⟨p, ws, rfl, hl, q, z, F, ds, ow, sm, hp, hq, dv, qq⟩ := h
    obtain ⟨t, m, pb, em⟩ := hb cdv A outer s H E hr q ds (by rw [← dv.length]; exact hl)
    have ns : g z ds ≠ .stuck := fun z => by rw [z] at qq; exact qq
    refine ⟨t, pb.ps, ?_⟩
    rw [em z ns] at qq
    have eσ : L2.start N (.ref p :: ws) = some (.ref p) :: (ws.map some ++ List.replicate (N.length - (ps.length + 1)) none) := by
      unfold L2.start
      simp [hl]
    have r0 := rep_srcs (K := K) (cs := cs) sm dv (N.length - (ps.length + 1)) ow hp hq
    rw [← eσ] at r0
    have key : ∀ {O' : List Addr} {F' H' : Hp} {σ' : L2.St} {Γ' : List SV} {s' : Src}, RepF K cs ⟨[0], L2.start N (.ref p :: ws)⟩ O' F' σ' H' Γ' → Has (some (0, fun s => OV.src q s)) Γ' s' → Same F' H' ∧ F' p = none ∧ F' q = none ∧ Own K cs F' H' (.src q s') (.ref p) := fun {O' F' H' σ' Γ' s'} r h => by
      obtain ⟨v, h1, h2, h3⟩ := r.rep.own 0 _ h
      have := r.slots 0 (by simp)
      rw [h1, eσ] at this
      have ev : v = .ref p := by simpa using this
      subst ev
      exact ⟨r.rep.same, r.rep.fr p (h3 p (by simp [fp])), r.rep.fr q (h3 q (by simp [fp])), h2⟩
    have ext : ∀ {O' : List Addr} {F' H' : Hp}, Ext [p, q] F H O' F' H' → Ext [p, q] F H [p, q] F' H' := fun e => ⟨e.sF, e.sH, e.tk, e.nF, fun b hb => .inl hb⟩
    refine pb.de (β := D) (fc := ⟨[0], L2.start N (.ref p :: ws)⟩) (G := fun O F1 H1 r => Ext [p, q] F H O F1 H1 ∧ PostS K cs F H Q E p q r) ⟨fun a e => ⟨a.1.trans e, a.2⟩, fun a => a.2, fun a r h x => ?_⟩ rfl (s := z) (O := [p, q]) (F := F) ⟨r0, fun j hj => rfl⟩ ⟨Ext.refl _ _ _, qq⟩
      ⟨fun d s' O' F' σ' H' v Γ' e r h dv' a => ?_, fun _ s' O' F' σ' H' e r a => ?_, (fun t => nomatch t), (fun t => nomatch t)⟩
    · obtain ⟨k1, k2, k3, k4⟩ := key r h
      exact a.2 _ _ _ _ (ext a.1) k1 k2 k3 k4 x
    · obtain ⟨k1, k2, k3, k4⟩ := key r h
      exact a.2 _ _ _ (ext a.1) k1 k2 k3 k4 dv'
    · obtain ⟨k1, k2, k3, k4⟩ := key r (s' := s') (by show (SV.own (.src q s') :: _)[0]? = _; rfl)
      exact a.2 _ _ _ (ext a.1) k1 k2 k3 k4 .non
end
/-- the class j of exceptions, ready to be called -/
structure XM (P : Program) (w : World) (K : PySem.W.Frag) (mg : Str → Option Value) (base : Heap) (cs : Cs) (j : Nat) (ps : List Str) (g : List D → Option (List D)) : Prop where
  ex : ∃ (B newId initId : String) (bmB : List Value) (fI : Addr) (fd : FuncData), EC K (cs j).1 B newId initId bmB ∧ PySem.W.findIn K (.ref (cs j).1) "__init__" = some (some (.ref fI)) ∧ PySem.W.typeIn K (.ref fI) = some (.type "function") ∧
    FnOk P w K mg base (L2.CX P w) 1 fI fd ("self" :: ps) (spX K cs j ps.length g) ∧ Binds K fd ("self" :: ps) []
section
variable {S : Type} {X : Cx} {cs : Cs} {W : WX} {Γ : S → List SV} {j : Nat} {ps : List Str} {x : Str} {e : Expr} {es : List Expr} {t : TA} {p pos : Pos} {ms : (β : Type) → S → (List D → S → R S β) → R S β} {g : List D → Option (List D)}
theorem pd_exM (M : XM X.prog X.w X.K X.mg X.base cs j ps g) (hm : X.mg x = some (.ref (cs j).1)) (hr : Room 2 X.A) (tk : Takes X W) (hg : Gl X x) (ha : PAD X cs W Γ (e :: es) t ms) (hn : (e :: es).length = ps.length) (hz : ps.length ≤ 1000)
    (hdb : (x == ("__debug__" : Str)) = false := by decide) (he : starEach (e :: es) X.env = (false, eval e X.env) :: starEach es X.env := by rfl) (hpl : (backTo pos (starEach es X.env)).any (·.1) = false := by rfl) :
    PD X cs W Γ (.Call (.Name x p) (e :: es) [] pos) (tMkV (cs j).1 (spX X.K cs j ps.length g) t) (fun s => ms D s fun ds s1 => opt ((g ds).map (.exc j)) s1) := by
  obtain ⟨B, newId, initId, bmB, fI, fd, h1, h2, h3, h4, h5⟩ := M.ex
  exact pd_exV (k := 1) ⟨h1, h2, h3, h4, h5⟩ hn hz hr tk hg hm ha hdb he hpl
theorem pd_exM0 (M : XM X.prog X.w X.K X.mg X.base cs j [] g) (hm : X.mg x = some (.ref (cs j).1)) (hr : Room 2 X.A) (tk : Takes X W) (hg : Gl X x) (hdb : (x == ("__debug__" : Str)) = false := by decide) :
    PD X cs W Γ (.Call (.Name x p) [] [] pos) (tMkV (cs j).1 (spX X.K cs j 0 g) tNil) (fun s => opt ((g []).map (.exc j)) s) := by
  obtain ⟨B, newId, initId, bmB, fI, fd, h1, h2, h3, h4, h5⟩ := M.ex
  exact pd_exV0 (k := 1) ⟨h1, h2, h3, h4, h5⟩ hr tk hg hm hdb
end
end HD
set_option maxRecDepth 100000
set_option maxHeartbeats 4000000
namespace HD
open PySem PySem.Spec PyProof.Rows L2
/-! ### slices of lists -/
def cutG {α : Type} (xs : List α) (lo hi : Option Int) : List α := (xs.drop (HT.sIx xs.length 0 lo)).take (HT.sIx xs.length xs.length hi - HT.sIx xs.length 0 lo)
theorem cutV_G (xs : List V) (lo hi : Option Int) : cutV xs lo hi = cutG xs lo hi := by first | rfl | (unfold cutV cutG; rfl)
theorem DVs.cut {K : PySem.W.Frag} {cs : Cs} {F : Hp} {vs : List V} {ds : List D} (h : DVs K cs F vs ds) (lo hi : Option Int) : DVs K cs F (cutV vs lo hi) (cutG ds lo hi) := by
  rw [cutV_G]
  unfold cutG
  rw [h.length]
  exact (h.drop _).take _
/-- a part of a slice that is written or left away -/
structure PSo (X : Cx) (e : Option Expr) (t : TO) (o : Option Int) : Prop where
  po : PO X e t
  de : ∀ σ H Q, Q o H → t σ H Q
theorem pso_none {X : Cx} : PSo X none tNoPart none := ⟨po_none, fun _ _ _ h => h⟩
theorem pso_int {X : Cx} {i : Int} {j : Nat} {pos : Pos} : PSo X (some (.Constant (.int i) j pos)) (tPart (tC (.int i))) (some i) := ⟨po_some pe_int, fun _ _ _ h => ⟨i, rfl, h⟩⟩
section
variable {S : Type} {X : Cx} {cs : Cs} {W : WX} {Γ : S → List SV} {e : Expr} {te : TE} {lo hi : Option Expr} {tl th : TO} {ol oh : Option Int} {m : S → R S D} {pos p2 : Pos}
def slF (ol oh : Option Int) : D → Option (List D)
  | .lst ds => some (cutG ds ol oh)
  | _ => none
theorem pf_slL (he : PR X cs W Γ e te m) (hl : PSo X lo tl ol) (hu : PSo X hi th oh) : PF X cs W Γ (.Subscript e (.Slice lo hi none p2) pos) (tSl (rSlL X.K) te tl th) (fun s => (m s).bind fun x s1 => match slF ol oh x with | some l => .ok l s1 | none => .stuck) := by
  refine ⟨pe_slice sl_list he.pe hl.po hu.po, fun s O F σ H Q r q => ?_⟩
  refine he.run PostF.goal r q fun x s1 F1 H1 v e1 r1 d1 q1 => ?_
  refine hl.de _ _ _ (hu.de _ _ _ ?_)
  cases x with
  | lst ds =>
    obtain ⟨p, vs, rfl, h, t⟩ := rRV_lst r1.same d1
    exact ⟨p, vs, rfl, SqL.of h, fun q hq => PostF.new q1 r1 hq (t.cut ol oh)⟩
  | _ => exact q1.elim
end
end HD
set_option maxRecDepth 100000
set_option maxHeartbeats 4000000
namespace HD
open PySem PySem.Spec PyProof.Rows L2
section
variable {S : Type} {X : Cx} {cs : Cs} {W : WX} {Γ : S → List SV} {e : Expr} {te : TE} {m : S → R S D}
theorem lend_back {i : Nat} {get : S → List D} {O : List Addr} {F F' H H' : Hp} {σ : L2.St} {p : Addr} {vs : List V} {s s1 : S} (hg : ∀ s, (Γ s)[i]? = some (.own (.lst (get s)))) (sd : ∀ s s', Sd (Γ s) (Γ s')) (ow : ∀ s j o, j ≠ i → (Γ s)[j]? = some (.own o) → ∃ q z, o = .src q z)
    (r : Rep X.K cs O F σ H (Γ s)) (h1 : σ[i]? = some (some (.ref p))) (pO : p ∈ O) (e1 : Ext (O.filter fun b => decide (b ≠ p)) (upd F p (.lst vs)) H (O.filter fun b => decide (b ≠ p)) F' H') (r2 : Rep X.K cs (O.filter fun b => decide (b ≠ p)) F' σ H' ((Γ s1).set i (.dat (.lst (get s1))))) (hc : (get s1).all isFlat = true) :
    Ext O F H O (del F' p) H' ∧ Rep X.K cs O (del F' p) σ H' (Γ s1) ∧ ∃ vs1, F' p = some (.lst vs1) ∧ (∀ v ∈ vs1, flatV v = true) ∧ vs1.length = (get s1).length := by
  have hF : F p = none := r.fr p pO
  have hi : i < (Γ s1).length := (List.getElem?_eq_some_iff.mp (hg s1)).1
  obtain ⟨v', g1, g2⟩ := r2.dat i (.lst (get s1)) (List.getElem?_set_self hi)
  rw [h1] at g1
  cases g1
  cases g2 with
  | @lst _ vs1 _ g3 g4 =>
  have fl := flat_all g4 hc
  have hlen : vs1.length = (get s1).length := g4.length
  have mem : ∀ b, b ∈ O.filter (fun b => decide (b ≠ p)) ↔ b ∈ O ∧ b ≠ p := fun b => by simp [List.mem_filter]
  have s1' : Same F (del F' p) := fun b o h => by
    rw [del_ne (ne_of_none h hF)]
    exact e1.sF b o (by rw [upd_ne (ne_of_none h hF)]; exact h)
  have sub : Same (del F' p) H' := fun b o h => by
    by_cases z : b = p
    · rw [z, del_same] at h; cases h
    · rw [del_ne z] at h; exact r2.same b o h
  have ex : Ext O F H O (del F' p) H' := ⟨s1', fun b o h n => e1.sH b o h fun z => n ((mem b).mp z).1, e1.tk, fun b a1 a2 n => by
    have np : b ≠ p := fun z => n (by rw [z]; exact pO)
    rw [del_ne np]
    exact e1.nF b a1 (by rw [upd_ne np]; exact a2) fun z => n ((mem b).mp z).1, fun b hb => .inl hb⟩
  have off : ∀ (k : Nat), k ≠ i → ((Γ s1).set i (.dat (.lst (get s1))))[k]? = (Γ s1)[k]? := fun k hk => set_off hk
  have other : ∀ (k : Nat) (o : OV), k ≠ i → (Γ s1)[k]? = some (.own o) → ∃ w, σ[k]? = some (some w) ∧ Own X.K cs (del F' p) H' o w ∧ ∀ b ∈ fp o w, b ∈ O ∧ b ≠ p := fun k o hk ho => by
    obtain ⟨w, a1, a2, a3⟩ := r2.own k o (by rw [off k hk]; exact ho)
    obtain ⟨q0, z0, rfl⟩ := ow s1 k o hk ho
    exact ⟨w, a1, a2, fun b hb => (mem b).mp (a3 b hb)⟩
  refine ⟨ex, ⟨sub, ?_, fun k d' hk => ?_, fun k o hk => ?_, fun k l o o' w w' hkl hk hl a1 a2 => ?_, fun b hb => ?_, fun b hb => ?_⟩, vs1, g3, fl, hlen⟩
  · have := r2.len
    rw [List.length_set] at this
    exact this
  · obtain ⟨w, a1, a2⟩ := r.dat k d' ((sd s s1).dat hk)
    exact ⟨w, a1, a2.mono s1'⟩
  · by_cases z : k = i
    · subst z
      rw [hg s1] at hk
      cases hk
      exact ⟨_, h1, ⟨p, vs1, rfl, r2.same _ _ g3, g4.flat hc⟩, fun b hb => by simp [fp] at hb; rw [hb]; exact pO⟩
    · obtain ⟨w, a1, a2, a3⟩ := other k o z hk
      exact ⟨w, a1, a2, fun b hb => (a3 b hb).1⟩
  · by_cases z1 : k = i
    · subst z1
      rw [hg s1] at hk
      cases hk
      rw [h1] at a1
      cases a1
      obtain ⟨w2, b1, b2, b3⟩ := other l o' (Ne.symm hkl) hl
      rw [a2] at b1
      cases b1
      intro b hb hb2
      simp [fp] at hb
      exact (b3 b hb2).2 hb
    · by_cases z2 : l = i
      · subst z2
        rw [hg s1] at hl
        cases hl
        rw [h1] at a2
        cases a2
        obtain ⟨w2, b1, b2, b3⟩ := other k o z1 hk
        rw [a1] at b1
        cases b1
        intro b hb hb2
        simp [fp] at hb2
        exact (b3 b hb).2 hb2
      · exact r2.dis k l o o' w w' hkl (by rw [off k z1]; exact hk) (by rw [off l z2]; exact hl) a1 a2
  · by_cases z : b = p
    · rw [z, del_same]
    · rw [del_ne z]; exact r2.fr b ((mem b).mpr ⟨hb, z⟩)
  · by_cases z : b = p
    · rw [z, r2.same _ _ g3]; simp
    · exact r2.trk b ((mem b).mpr ⟨hb, z⟩)

def lendT {S : Type} (r : R S Bool) (get : S → List D) : R S Bool := match r with
  | .ok b s => if (get s).all isFlat then .ok b s else .stuck
  | _ => .stuck
/-- a test is judged where the list at i is data -/
theorem ptd_lend {i : Nat} {tt : TT} {mt : S → R S Bool} (get : S → List D) (hg : ∀ s, (Γ s)[i]? = some (.own (.lst (get s)))) (sd : ∀ s s', Sd (Γ s) (Γ s')) (ow : ∀ s j o, j ≠ i → (Γ s)[j]? = some (.own o) → ∃ q z, o = .src q z)
    (he : PTD X cs W (fun s => (Γ s).set i (.dat (.lst (get s)))) e tt mt) : PTD X cs W Γ e tt (fun s => lendT (mt s) get) := by
  refine ⟨he.pt, fun s O F σ H Q r q => ?_⟩
  obtain ⟨p, vs, h1, h2, pO, r1, _⟩ := r.fz (hg s)
  refine he.de s _ _ σ H Q r1 ?_
  cases hm : mt s with
  | err x s1 => rw [hm] at q; exact q.elim
  | stuck => rw [hm] at q; exact q.elim
  | ok b s1 =>
    rw [hm] at q
    unfold lendT at q
    dsimp only at q
    by_cases hc : ((get s1).all isFlat) = true
    · rw [if_pos hc] at q
      intro F' H' e1 r2
      obtain ⟨x1, x2, _⟩ := lend_back hg sd ow r h1 pO e1 r2 hc
      exact q (del F' p) H' x1 x2
    · rw [if_neg hc] at q; exact q.elim
theorem pd_varS {i : Nat} {g : S → D} (he : PE X e (tVar i)) (h : ∀ s, (Γ s)[i]? = some (.dat (g s))) : PD X cs W Γ e (tVar i) (fun s => .ok (g s) s) :=
  ⟨he, fun s O F σ H Q r q => let ⟨v, h1, h2⟩ := r.dat i (g s) (h s); ⟨v, h1, Post.fin q r h2⟩⟩
end
end HD
namespace HD
open PySem PySem.Spec PyProof.Rows L2
/-- a call, within a block too -/
theorem pd_callB {P : Program} {w : World} {K : PySem.W.Frag} {mg : Str → Option Value} {base : Heap} {S : Type} {X : Cx} {cs : Cs} {W : WX} {Γ : S → List SV} {e : Expr} {es : List Expr} {t : TA} {pos p : Pos} {ms : (β : Type) → S → (List D → S → R S β) → R S β} {x : Str} {k : Nat} {f : Addr} {fd : FuncData} {ps : List Str} {g : List D → R Unit D}
    (Fn : FnOk P w K mg base (L2.CX P w) k f fd ps (spP K cs ps.length g)) (hm : mg x = some (.ref f)) (hk : PySem.W.keepIn K (.ref f) = true) (hb : Binds K fd ps []) (hn : (e :: es).length = ps.length) (ha : PAD X cs W Γ (e :: es) t ms) (hr : Room k X.A) (hg : Gl X x) (tk : Takes X W)
    (eX : X.prog = P ∧ X.w = w ∧ X.K = K ∧ X.mg = mg ∧ X.base = base := by exact ⟨rfl, rfl, rfl, rfl, rfl⟩) (hdb : (x == ("__debug__" : Str)) = false := by decide) (he : starEach (e :: es) X.env = (false, eval e X.env) :: starEach es X.env := by rfl) (hpl : (backTo pos (starEach es X.env)).any (·.1) = false := by rfl) :
    PD X cs W Γ (.Call (.Name x p) (e :: es) [] pos) (tCallS (spP K cs ps.length g) (fun σ cls d H => W cls d σ H) t) (fun s => ms D s fun ds s1 => (g ds).lift s1) := by
  obtain ⟨rfl, rfl, rfl, rfl, rfl⟩ := eX
  exact pd_call Fn hn hr hg hm hk hb tk ha hdb he hpl
end HD
set_option maxRecDepth 100000
set_option maxHeartbeats 4000000
namespace HD
open PySem PySem.Spec PyProof.Rows L2
theorem eqF_refl {neg : Bool} {x : D} (h1 : (toPy x).canLay0 = true) (h2 : (toPy x).depth ≤ 64) : eqF neg x x = some (.bl (!neg)) := by
  have e := PySem.SeqAt.eqv_refl (toPy x) h1
  unfold eqF SeqAt.shaped
  rw [h1, e]
  simp only [Bool.true_and, decide_eq_true h2]
  cases neg <;> rfl
theorem eqF_same {neg : Bool} {x y : D} (e : x = y) (h1 : (toPy x).canLay0 = true) (h2 : (toPy x).depth ≤ 64) : eqF neg x y = some (.bl (!neg)) := by
  subst e; exact eqF_refl h1 h2
end HD
namespace HD
open PySem PySem.Spec PyProof.Rows L2
theorem char_lt (c : Char) : c.toNat < 0x110000 := by
  have := c.valid
  unfold UInt32.isValidChar Nat.isValidChar at this
  show c.val.toNat < _
  omega
theorem cps_of (x : String) : ∀ c ∈ (Str.ofString x).cps.toList, c < 0x110000 := fun c hc => by
  rw [PySem.Str.ofString_eq_toList] at hc
  simp only [List.mem_map] at hc
  obtain ⟨d, _, rfl⟩ := hc
  exact char_lt d
theorem strOk_by {x : Str} (h : ∀ c ∈ x.cps.toList, c < 0x110000) : PySem.PyData.strOk x = true := by
  unfold PySem.PyData.strOk
  rw [← Array.all_toList, List.all_eq_true]
  intro c hc
  exact decide_eq_true (h c hc)
theorem msgOk_by {x : Str} (h : ∀ c ∈ x.cps.toList, c < 0x110000) (hl : x.length ≤ 1000) : msgOk (.str x) = true := by
  unfold msgOk
  rw [Bool.and_eq_true, List.all_eq_true]
  exact ⟨decide_eq_true hl, fun c hc => decide_eq_true (Nat.lt_trans (h c hc) (by decide))⟩
theorem cps_app {x y : Str} (hx : ∀ c ∈ x.cps.toList, c < 0x110000) (hy : ∀ c ∈ y.cps.toList, c < 0x110000) : ∀ c ∈ (x ++ y).cps.toList, c < 0x110000 := fun c hc => by
  have e : (x ++ y).cps = x.cps ++ y.cps := rfl
  rw [e, Array.toList_append, List.mem_append] at hc
  exact hc.elim (hx c) (hy c)
/-- a letter of a written text, then digits -/
theorem letter_ok {x : String} {k : Int} {n : Nat} (hn : (Str.ofString x).cps.toList.length = n) (hl : n ≤ 1000) (h0 : 0 ≤ k) (h1 : k < n) : ∃ a : Str, ixF (.str (Str.ofString x)) (.int k) = some (.str a) ∧ a.length = 1 ∧ ∀ c ∈ a.cps.toList, c < 0x110000 := by
  obtain ⟨j, rfl⟩ := Int.eq_ofNat_of_zero_le h0
  have hj : j < (Str.ofString x).cps.toList.length := by rw [hn]; omega
  have hz : (Str.ofString x).length ≤ 1000000 := by
    have : (Str.ofString x).length = (Str.ofString x).cps.toList.length := by simp [Str.length]
    rw [this, hn]; omega
  refine ⟨⟨#[(Str.ofString x).cps.toList[j]]⟩, ?_, rfl, fun c hc => ?_⟩
  · show (if (Str.ofString x).length ≤ 1000000 then (L2.atI (Str.ofString x).cps.toList ((j : Nat) : Int)).map fun c => D.str ⟨#[c]⟩ else none) = _
    rw [if_pos hz, atI_nat hj, List.getElem?_eq_getElem hj]
    rfl
  · simp only [List.mem_singleton] at hc
    rw [hc]
    exact cps_of x _ (List.getElem_mem hj)
theorem digits_ok {n : Int} (h0 : 0 ≤ n) (h1 : n < 1000000) : strF (.int n) = some (.str (Str.ofString (toString n))) ∧ (Str.ofString (toString n)).length ≤ 100 := by
  have hb : n.natAbs ≤ 1000000 := by omega
  refine ⟨by simp [strF, hb], ?_⟩
  have e := int_text_length_le (a := n) (k := 20) (by decide) (by
    by_cases z : n.natAbs = 0
    · rw [z]; decide
    · exact (Nat.log2_lt z).mpr (by omega))
  rw [PySem.ofString_length]; omega
end HD
set_option maxRecDepth 100000
set_option maxHeartbeats 4000000
namespace HD
open PySem PySem.Spec PyProof.Rows L2
def top (i : Nat) : Stmt := PySem.Challenge.pw_settlescale_k91_errors.main.body.getD i (.Pass ⟨0, 0, 0, 0⟩)
abbrev sPick : Stmt := top 31
section
variable {P : Program} {w : World} {K : PySem.W.Frag} {mg : Str → Option Value} {base : Heap} {cs : Cs}
theorem scPick : FnScope ["_law_source_here", "_law_many", "_law_cells", "_law_left", "_law_turn", "_law_mixed"] ["_law_source_here", "_law_many"] (defScope sPick) := ⟨rfl, rfl, rfl, by decide +kernel, rfl, by decide +kernel, by decide +kernel⟩
theorem ok_pick {f : Addr} {fd : FuncData} (Fn : Fun K "_law_pick" "_law_pick" sPick f fd) (mLen : mg "len" = none) (mInt : mg "int" = none) : FnOk P w K mg base (L2.CX P w) 1 f fd ["_law_source_here", "_law_many"] (spS K cs 1 pickG) := by
  refine Fn.okX scPick (fun vs H Q E h => by obtain ⟨p, ws, rfl, hl, _⟩ := h; simp [hl]) fun cdv A outer s H vs Q E hr h => ?_
  have hu := hu_of hr
  have gv : ∀ {i : Expr}, NoSl i → NoSl i := fun h => h
  refine ⟨_, pss_cons (ps_if (pt_cmpR op_lt (pv 1) pe_int (nomark _)) (pss_one (ps_ret pe_int)) pss_nil)
    (pss_cons (ps_set (i := 2) scPick.nd rfl (.inl rfl) (pe_dget hu (pv 0) pe_str (fun _ _ => rfl)))
    (pss_cons (ps_while (passes_of rfl) (pw_and (pt_cmpR op_lt (pe_dget hu (pv 0) pe_str (fun _ _ => rfl)) pe_int (nomark _)) (pw_and1 (pt_cmpR op_gt (pe_callB call_lenA (by rfl) mLen PySem.boot_len (pa_cons (pv 2) pa_nil)) pe_int (nomark _)))).pt
        (pss_one (ps_dput hu (pv 0) pe_str (pe_bm0 F.plainAttrs_list F.slot_list_pop F.type_list_pop mt_pop (pv 2)) rfl)))
    (pss_cons (ps_set (i := 3) scPick.nd rfl (.inl rfl) (pe_dget hu (pv 0) pe_str (fun _ _ => rfl)))
    (pss_cons (ps_if (pt_cmpR op_gt (pv 3) pe_int (nomark _))
        (pss_cons (ps_dput hu (pv 0) pe_str (pe_op op_fdiv (pv 3) (pv 1)) rfl) (pss_one (ps_ret (pe_op op_mod (pe_callTy call_int1 (by rfl) mInt (by decide +kernel) (pa_cons (pv 3) pa_nil)) (pv 1))))) pss_nil)
    (pss_cons (ps_dput hu (pv 0) pe_str (pe_op op_add (pe_dget hu (pv 0) pe_str (fun _ _ => rfl)) pe_int) rfl)
    (pss_cons (ps_set (i := 4) scPick.nd rfl (.inl rfl) (pe_dget hu (pv 0) pe_str (fun _ _ => rfl)))
    (pss_cons (ps_set (i := 5) scPick.nd rfl (.inl rfl) (pe_op op_mod (pe_callTy call_int1 (by rfl) mInt (by decide +kernel) (pa_cons (pe_op op_add (pe_dget hu (pv 0) pe_str (fun _ _ => rfl)) (pe_op op_mul (pv 4) pe_int)) pa_nil)) pe_int))
    (pss_cons (ps_set (i := 5) scPick.nd rfl (.inl rfl) (pe_op op_mod (pe_callTy call_int1 (by rfl) mInt (by decide +kernel) (pa_cons (pe_op op_add (pe_op op_mul (pv 5) (pv 5)) (pe_op op_mul (pv 4) pe_int)) pa_nil)) pe_int))
    (pss_cons (ps_if (pt_cmpR op_gt (pv 1) (pe_op op_pow pe_int pe_int) (nomark _)) pss_never pss_nil)
    (pss_one (ps_ret (pe_op op_mod (pe_callTy call_int1 (by rfl) mInt (by decide +kernel) (pa_cons (pe_op op_fdiv (pv 5) pe_int) pa_nil)) (pv 1))))))))))))), ?_⟩
  obtain ⟨p, ws, rfl, hl, q, z, F, ds, ow, sm, hp, hq, dv, post⟩ := h
  have npq := src_ne ow
  have tp := ow.trk p (by simp [fp])
  have tq := ow.trk q (by simp [fp])
  obtain ⟨p', e, hd, hc⟩ := ow
  cases e
  obtain ⟨cells, left, mixed, turn⟩ := z
  have a0 : AtS F H p q cells left mixed turn H := ⟨hd, hc, fun _ _ _ => rfl, npq⟩
  obtain ⟨m, rfl, k, z', hk, post⟩ : ∃ m, ds = [.int m] ∧ ∃ k z', pickF ⟨cells, left, mixed, turn⟩ m = some (k, z') ∧ PostS K cs F H Q E p q (.ok (.int k) z') := by
    unfold pickG at post
    split at post
    · rename_i m
      split at post
      · exact ⟨m, rfl, _, _, by assumption, post⟩
      · exact post.elim
    · exact post.elim
  have hws : ws = [.int m] := by
    cases dv with
    | cons h t => cases h; cases t; rfl
  subst hws
  have fin : ∀ {H' : Hp} {c : List Int} {l t : Int}, z' = ⟨c, l, mixed, t⟩ → AtS F H p q c l mixed t H' → Q (.int k) H' := fun {H' c l t} ez a => by
    subst ez
    obtain ⟨e1, e2, e3⟩ := a.fin (cs0 := cs) (K := K) sm hp hq tp tq
    exact post F H' _ e1 e2 hp hq e3 (.int k)
  -- if many < 2
  refine ⟨_, rfl, _, _, rfl, rfl, _, rfl, ?_⟩
  refine ite2 (fun h1 => ?_) (fun h1 => ?_)
  · have h1 : m < 2 := of_decide_eq_true h1
    unfold pickF at hk
    rw [if_pos h1] at hk
    cases hk
    exact fin rfl a0
  have h1 : ¬ m < 2 := fun z => h1 (decide_eq_true z)
  unfold pickF at hk
  rw [if_neg h1] at hk
  by_cases h10 : 10000000 < m
  · rw [if_pos h10] at hk; cases hk
  rw [if_neg h10] at hk
  -- cells
  refine ⟨_, rfl, p, _, rfl, getC a0.d, ?_⟩
  refine ⟨fun n σ1 H1 => σ1 = [some (.ref p), some (.int m), some (.ref q), none, none, none] ∧ ∃ c l, n = c.length ∧ AtS F H p q c l mixed turn H1 ∧ drain c.length c l = drain cells.length cells left, ⟨_, rfl, cells, left, rfl, a0, rfl⟩, ?_⟩
  rintro n σ1 H1 ⟨rfl, c, l, rfl, a1, ed⟩
  refine read_cond a1 rfl rfl ?_
  by_cases h2 : l < 2 ∧ 0 < c.length
  · rw [decide_eq_true h2]
    refine ⟨fun σ2 H2 => σ2 = [some (.ref p), some (.int m), some (.ref q), none, none, none] ∧ ∃ l', AtS F H p q c.dropLast l' mixed turn H2 ∧ drain c.dropLast.length c.dropLast l' = drain cells.length cells left, ?_, ?_⟩
    · rintro σ2 H2 ⟨rfl, l', a2, e2⟩
      exact ⟨c.dropLast.length, by rw [List.length_dropLast]; omega, rfl, _, l', rfl, a2, e2⟩
    · refine ⟨_, rfl, .inl ⟨rfl, _, SqL.of a1.c⟩, q, _, _, rfl, rfl, a1.c, last_int h2.2, _, rfl, ?_⟩
      have a2 := a1.pop (l' := c.getLast?.getD 0)
      have hd2 : (upd H1 q (.lst (c.map V.int).dropLast)) p = some (.dK (srcL q l mixed turn)) := by rw [upd_ne npq]; exact a1.d
      have em : (c.map V.int).dropLast = c.dropLast.map .int := by rw [List.map_dropLast]
      refine ⟨p, _, rfl, putL hd2, rfl, c.getLast?.getD 0, by rw [em]; exact a2, ?_⟩
      rw [← drain_go h2]; exact ed
  rw [decide_eq_false h2]
  rw [drain_stop h2] at ed
  rw [← ed] at hk
  dsimp only at hk
  -- left
  refine ⟨_, rfl, p, _, rfl, getL a1.d, ?_⟩
  refine ⟨_, rfl, _, _, rfl, rfl, _, rfl, ?_⟩
  refine ite2 (fun h3 => ?_) (fun h3 => ?_)
  · have h3 : 1 < l := of_decide_eq_true h3
    rw [if_pos h3] at hk
    cases hk
    refine ⟨_, rfl, _, rfl, _, _, rfl, rfl, ⟨by omega, by omega⟩, _, rfl, p, _, rfl, putL a1.d, ?_⟩
    refine ⟨_, rfl, .inl ⟨_, rfl, ?_⟩⟩
    exact ⟨_, rfl, _, _, rfl, rfl, by show (0 : Int) < m; omega, fin rfl a1.left⟩
  have h3 : ¬ 1 < l := fun z => h3 (decide_eq_true z)
  rw [if_neg h3] at hk
  cases hk
  -- turn
  refine ⟨_, rfl, p, _, rfl, getT a1.d, _, _, rfl, rfl, _, rfl, p, _, rfl, putT a1.d, ?_⟩
  have a2 : AtS F H p q c l mixed (turn + 1) _ := a1.left (l' := l) (t' := turn + 1)
  refine ⟨_, rfl, p, _, rfl, getT a2.d, ?_⟩
  refine ⟨_, rfl, p, _, rfl, getM a2.d, ?_⟩
  refine ⟨_, rfl, _, _, rfl, rfl, .inr ⟨by decide, by decide⟩, _, _, rfl, rfl, .inl ⟨_, rfl, _, _, rfl, rfl, (by decide : (0 : Int) < 998244353), ?_⟩⟩
  have b1 := Int.emod_nonneg (mixed + (turn + 1) * 104729) (show (998244353 : Int) ≠ 0 by decide)
  have b2 := Int.emod_lt_of_pos (mixed + (turn + 1) * 104729) (show (0 : Int) < 998244353 by decide)
  refine ⟨_, rfl, _, rfl, _, _, rfl, rfl, .inl ⟨by omega, by omega⟩, _, rfl, _, _, rfl, rfl, .inr ⟨by decide, by decide⟩, _, _, rfl, rfl, .inl ⟨_, rfl, _, _, rfl, rfl, (by decide : (0 : Int) < 2147483647), ?_⟩⟩
  -- 10 ** 7
  refine ⟨_, rfl, _, _, rfl, rfl, ⟨by decide, by decide, by decide⟩, _, _, rfl, rfl, _, rfl, ?_⟩
  refine ite2 (fun h4 => ?_) (fun h4 => ?_)
  · have h4 : (10 : Int) ^ (7 : Int).toNat < m := of_decide_eq_true h4
    exact absurd h4 (by simp; omega)
  refine ⟨_, rfl, _, _, rfl, rfl, ⟨by decide, by decide⟩, .inl ⟨_, rfl, ?_⟩⟩
  exact ⟨_, rfl, _, _, rfl, rfl, by show (0 : Int) < m; omega, fin rfl a2⟩
end
end HD
set_option maxRecDepth 100000
set_option maxHeartbeats 4000000
namespace HD
open PySem PySem.Spec PyProof.Rows L2
abbrev sSrc : Stmt := top 30
section
variable {P : Program} {w : World} {K : PySem.W.Frag} {mg : Str → Option Value} {base : Heap} {cs : Cs}
def cs0 : Cs := fun _ => (0, [])
theorem scSrc : FnScope ["_law_script", "_law_mixed", "_law_cell", "_law_cells", "_law_k"] ["_law_script"] (defScope sSrc) := ⟨rfl, rfl, rfl, by decide +kernel, rfl, by decide +kernel, by decide +kernel⟩
theorem ok_source {f : Addr} {fd : FuncData} (Fn : Fun K "_law_source" "_law_source" sSrc f fd) (mLen : mg "len" = none) (mInt : mg "int" = none) (mAbs : mg "abs" = none) (mRg : mg "range" = none) : FnOk P w K mg base (L2.CX P w) 1 f fd ["_law_script"] (spSrc0 K) := by
  refine Fn.okX scSrc (fun vs H Q E h => by obtain ⟨a, ns, rfl, _⟩ := h; rfl) fun cdv A outer s H vs Q E hr h => ?_
  have hu := hu_of hr
  obtain ⟨a, ns, rfl, hS, hn, post⟩ := h
  have pf : ∃ te : TE, ∀ (l : List D) (mx : D), ∃ m, PF (cxOf (L2.CX P w) P w K mg base ["_law_script", "_law_mixed", "_law_cell", "_law_cells", "_law_k"] "_law_source" (defScope sSrc) f cdv A outer s H E) cs0 wF (fun _ : Unit => [.unk, .dat mx, .unk, .dat (.lst l), .unk]) (dictV (retE (nthS (defBody sSrc) 3)) 0) te m ∧ ∀ c : List Int, l = c.map .int → c.length ≤ 1000 → ∃ c' : List Int, m () = .ok (c'.map .int) () := by
    refine ⟨_, fun l mx => ⟨_, pf_lcB (own := [("_law_k", 4)]) (D.non) rfl scSrc.nd (pid_range1 (by rfl) mRg (pad_cons (pd_cb1 call_lenA d_len (by rfl) mLen PySem.boot_len (pd_var (i := 3) (pv 3) (fun _ => rfl)).pr) pad_nil)) (blkOk_by rfl)
      (fun s H C cl fp => pgd_name (i := 4) (pg_name (i := 4) scSrc.nd rfl (.inl rfl))) (by simp) (fun _ _ => Sd.refl _) (fun _ => by simp [noOwn])
      (fun y s H C cl fp => ptsd_nil)
      (fun y s H C cl fp => pd_ix hu (pd_var (i := 3) (pv 3) (fun _ => rfl)) (pd_bin op_sub d_sub (pd_bin op_sub d_sub (pd_cb1 call_lenA d_len (by rfl) mLen PySem.boot_len (pd_var (i := 3) (pv 3) (fun _ => rfl)).pr) pd_int) (pd_var (i := 4) (pv 4) (fun _ => rfl))) (fun _ _ => rfl)), ?_⟩⟩
    rintro c rfl hc
    refine ⟨(List.range c.length).map fun k => c.getD (c.length - 1 - k) 0, ?_⟩
    have e1 : lenF (D.lst (c.map D.int)) = some (.int (c.length : Int)) := by simp [lenF]
    have e2 : rangeF [.int (c.length : Int)] = some (rangeD 0 c.length) := by simp [rangeF]; omega
    simp only [lcL, R.bind_ok, e1, opt_some, e2]
    rw [lcA_map (fun x => match x with | .int k => .int (c.getD (c.length - 1 - k.toNat) 0) | d => d)]
    · simp [rangeD, List.map_map, Function.comp_def]
    · simp [rangeD]; omega
    · intro x hx
      simp only [rangeD, List.mem_map, List.mem_range] at hx
      obtain ⟨k, hk, rfl⟩ := hx
      have h1 : ((c.map D.int).length : Int) = c.length := by simp
      have e3 : ixF (D.lst (c.map D.int)) (.int ((c.length : Int) - 1 - ((0 : Int) + (k : Nat)))) = some (.int (c.getD (c.length - 1 - k) 0)) := by
        have e4 : ((c.length : Int) - 1 - ((0 : Int) + (k : Nat))) = ((c.length - 1 - k : Nat) : Int) := by omega
        rw [e4]
        show L2.atI (c.map D.int) _ = _
        rw [atI_nat (by simp; omega), List.getElem?_map, List.getElem?_eq_getElem (by omega)]
        simp [List.getD_eq_getElem?_getD, show c.length - 1 - k < c.length by omega]
      have e5 : subF (.int (c.length : Int)) (.int 1) = some (.int ((c.length : Int) - 1)) := by simp [subF, intF]
      have e6 : subF (.int ((c.length : Int) - 1)) (.int ((0 : Int) + (k : Nat))) = some (.int ((c.length : Int) - 1 - ((0 : Int) + (k : Nat)))) := by simp [subF, intF]
      simp only [patR_some, R.bind_ok, e1, opt_some, if_true, e5, e6, e3]
      simp
  obtain ⟨teC, pf⟩ := pf
  have pfe := fun (X : Unit) => (pf [] .non).choose_spec.1.pe
  refine ⟨_, pss_cons (ps_set (i := 1) scSrc.nd rfl (.inl rfl) pe_int)
    (pss_cons (ps_for (passes_of rfl) rfl (pi_list (pv 0)) (pg_name (i := 2) scSrc.nd rfl (.inl rfl)) (pss_one (ps_set (i := 1) scSrc.nd rfl (.inl rfl) (pe_op op_mod (pe_callTy call_int1 (by rfl) mInt (by decide +kernel) (pa_cons (pe_op op_add (pe_op op_add (pe_op op_mul (pv 1) pe_int) (pe_op op_mul (pv 2) pe_int)) pe_int) pa_nil)) pe_int))))
    (pss_cons (ps_set (i := 3) scSrc.nd rfl (.inr rfl) (pe_lc (own := [("_law_cell", 2)]) rfl scSrc.nd (pi_list (pv 0)) (blkOk_by rfl) (fun s H C cl fp => pg_name (i := 2) scSrc.nd rfl (.inl rfl)) (fun s H C cl fp => pts_nil) (fun s H C cl fp => pe_callB call_abs (by rfl) mAbs (by decide +kernel) (pa_cons (pv 2) pa_nil))))
    (pss_one (ps_ret (pe_disp (pps_cons pe_str (pfe ()) (pps_cons pe_str pe_int (pps_cons pe_str (pv 1) (pps_cons pe_str pe_int pps_nil)))) rfl rfl (by simp) (by simp)))))), ?_⟩
  -- mixed
  refine ⟨_, rfl, a, rfl, ⟨_, hS⟩, for_list (K := K) (a := a) (xs := ns.map V.int) (fun i σ H2 => H2 = H ∧ ∃ m c, σ = [some (.ref a), some (.int m), c, none, none]) ⟨rfl, 11, none, rfl⟩ (fun i σ H2 _ h => by rw [h.1]; exact hS) ?_ ?_⟩
  · rintro i y σ H2 hi ⟨rfl, m, c, rfl⟩
    obtain ⟨z, rfl⟩ : ∃ z, y = V.int z := by
      rw [List.getElem?_map] at hi
      cases e : ns[i]? with
      | none => rw [e] at hi; cases hi
      | some z => rw [e] at hi; exact ⟨z, (Option.some.inj hi).symm⟩
    exact ⟨_, rfl, _, _, rfl, rfl, .inr ⟨by decide, by decide⟩, _, rfl, _, _, rfl, rfl, .inr ⟨by decide, by decide⟩, _, _, rfl, rfl, _, _, rfl, rfl, .inl ⟨_, rfl, _, _, rfl, rfl, (by decide : (0 : Int) < 2147483629), rfl, _, _, rfl⟩⟩
  rintro σ H2 ⟨rfl, m, cc, rfl⟩
  -- cells
  refine ⟨_, rfl, a, rfl, ⟨_, hS⟩, fun D0 hD0 => ?_⟩
  have sm : ∀ l, Same H2 (upd H2 D0 (.lst l)) := fun l b o e => by rw [upd_ne (ne_of_none e hD0)]; exact e
  refine lc_list (K := K) (a := a) (xs := ns.map V.int) (fun i H3 => H3 = upd H2 D0 (.lst ((ns.take i).map fun z => V.int (if z < 0 then -z else z)))) rfl (fun i H3 _ h => by rw [h]; exact (sm _).seq hS) ?_ ?_
  · rintro i x H3 hi rfl
    have hi : (ns.map V.int)[i]? = some x := hi
    rw [List.getElem?_map] at hi
    cases e : ns[i]? with
    | none => rw [e] at hi; cases hi
    | some z =>
      rw [e] at hi
      cases hi
      refine ⟨rfl, yes_if ?_⟩
      refine ⟨_, rfl, z, rfl, _, upd_same, ?_, ?_⟩
      · rw [List.length_map]
        exact small1000 (Nat.le_trans (by rw [List.length_take]; exact Nat.min_le_right _ _) hn)
      · rw [upd_upd, List.take_succ, e]
        simp
  rintro H3 rfl
  -- the dict
  intro p hp
  have np : H2 p = none ∧ p ≠ D0 := by
    by_cases z : p = D0
    · rw [z, upd_same] at hp; cases hp
    · rw [upd_ne z] at hp; exact ⟨hp, z⟩
  generalize ecs : (ns.take (ns.map V.int).length).map (fun z => V.int (if z < 0 then -z else z)) = vsC at hp ⊢
  have ecs2 : vsC = (ns.map fun z => if z < 0 then -z else z).map V.int := by
    rw [← ecs]; simp [List.map_map, Function.comp_def]
  obtain ⟨mm, PFh, hm⟩ := pf ((ns.map fun z => if z < 0 then -z else z).map D.int) (.int m)
  obtain ⟨c', hm⟩ := hm (ns.map fun z => if z < 0 then -z else z) rfl (by simpa using hn)
  have nd : upd (upd H2 D0 (.lst vsC)) p (.dK []) D0 = some (.lst vsC) := by rw [upd_ne np.2.symm, upd_same]
  refine PFh.de () [] (upd (fun _ => none) D0 (.lst vsC)) _ _ _ ⟨fun b o h => ?_, rfl, fun i d hi => ?_, fun i o hi => ?_, fun i j o o' v v' _ hi => ?_, (fun b hb => nomatch hb), (fun b hb => nomatch hb)⟩ ?_
  · by_cases z : b = D0
    · subst z; rw [upd_same] at h; rw [nd]; exact h
    · rw [upd_ne z] at h; cases h
  · match i, hi with
    | 1, hi => cases hi; exact ⟨_, rfl, .int m⟩
    | 3, hi => cases hi; exact ⟨_, rfl, .lst upd_same (by rw [ecs2]; exact dv_ints _)⟩
    | 0, hi => cases hi
    | 2, hi => cases hi
    | 4, hi => cases hi
    | n + 5, hi => simp at hi
  · match i, hi with
    | 0, hi => cases hi
    | 1, hi => cases hi
    | 2, hi => cases hi
    | 3, hi => cases hi
    | 4, hi => cases hi
    | n + 5, hi => simp at hi
  · match i, hi with
    | 0, hi => cases hi
    | 1, hi => cases hi
    | 2, hi => cases hi
    | 3, hi => cases hi
    | 4, hi => cases hi
    | n + 5, hi => simp at hi
  · rw [hm]
    intro F' H' q vs _ ex r' hq fq dvs
    have evs := dvs_ints dvs
    subst evs
    have hq0 : upd (upd H2 D0 (.lst vsC)) p (.dK []) q = none := (ex.nO q (by simp)).resolve_left (by simp)
    have nqp : q ≠ p := fun z => by rw [z, upd_same] at hq0; cases hq0
    have nqD : q ≠ D0 := fun z => by rw [z, nd] at hq0; cases hq0
    have hq2 : H2 q = none := by rw [upd_ne nqp, upd_ne nqD] at hq0; exact hq0
    have kp : ∀ b o, H2 b = some o → H' b = some o := fun b o h => ex.sH b o (by rw [upd_ne (ne_of_none h np.1), upd_ne (ne_of_none h hD0)]; exact h) (by simp)
    refine ⟨_, rfl, ex.sH p _ upd_same (by simp), srcL q 1 m 0, rfl, by simp, ?_⟩
    rw [merge_src]
    exact post ⟨c', 1, m, 0⟩ p q _ np.1 hq2 nqp.symm (fun b o h => by rw [upd_ne (ne_of_none h np.1)]; exact kp b o h) upd_same (by rw [upd_ne nqp]; exact hq)
end
end HD
set_option maxRecDepth 100000
set_option maxHeartbeats 4000000
namespace HD
open PySem PySem.Spec PyProof.Rows L2
section
variable {P : Program} {w : World} {K : PySem.W.Frag} {mg : Str → Option Value} {base : Heap} {cs : Cs} {B newId initId : String} {bmB : List Value}
abbrev sBadScale : Stmt := inClass (top 2) 0
theorem scBadScale : ScopeS (["self"] : List Str) (["self"] : List Str) (defScope sBadScale) := ⟨rfl, rfl, rfl, by decide +kernel, rfl, by decide +kernel, by decide +kernel, by decide +kernel⟩
def gBadScale : List D → Option (List D)
  | [] => if true then (some []) else none
  | _ => none
theorem ok_BadScale {f cc cda : Addr} {fd : FuncData} (Fn : FunS P K "__init__" "BadScale.__init__" sBadScale f cc cda (cs 0).1 fd) (T : EC K (cs 0).1 B newId initId bmB) (ec : (cs 0).2 = ([] : List Str)) (hs : mg "super" = none) (mTup : mg "tuple" = none) (nt : ∀ n ∈ ([] : List Str), PySem.W.takerIn K (cs 0).1 n = some none) :
    FnOk P w K mg base (L2.CX P w) 1 f fd (["self"] : List Str) (spX K cs 0 0 gBadScale) := by
  refine fnX (ps := ([] : List Str)) Fn T scBadScale rfl rfl rfl rfl (by decide +kernel) hs rfl (by rw [ec]; decide +kernel) (by rw [ec]; decide +kernel) (fun _ => rfl) (fun _ => rfl) (fun _ => ⟨_, rfl⟩) fun A outer s H E hr ds hl => ?_
  match ds, hl with
  | [], _ =>
    rw [ec]
    exact ⟨_, _, _, _, pm_str, pst_nil, rfl⟩
abbrev sBadImages : Stmt := inClass (top 3) 0
theorem scBadImages : ScopeS (["self"] : List Str) (["self"] : List Str) (defScope sBadImages) := ⟨rfl, rfl, rfl, by decide +kernel, rfl, by decide +kernel, by decide +kernel, by decide +kernel⟩
def gBadImages : List D → Option (List D)
  | [] => if true then (some []) else none
  | _ => none
theorem ok_BadImages {f cc cda : Addr} {fd : FuncData} (Fn : FunS P K "__init__" "BadImages.__init__" sBadImages f cc cda (cs 1).1 fd) (T : EC K (cs 1).1 B newId initId bmB) (ec : (cs 1).2 = ([] : List Str)) (hs : mg "super" = none) (mTup : mg "tuple" = none) (nt : ∀ n ∈ ([] : List Str), PySem.W.takerIn K (cs 1).1 n = some none) :
    FnOk P w K mg base (L2.CX P w) 1 f fd (["self"] : List Str) (spX K cs 1 0 gBadImages) := by
  refine fnX (ps := ([] : List Str)) Fn T scBadImages rfl rfl rfl rfl (by decide +kernel) hs rfl (by rw [ec]; decide +kernel) (by rw [ec]; decide +kernel) (fun _ => rfl) (fun _ => rfl) (fun _ => ⟨_, rfl⟩) fun A outer s H E hr ds hl => ?_
  match ds, hl with
  | [], _ =>
    rw [ec]
    exact ⟨_, _, _, _, pm_str, pst_nil, rfl⟩
abbrev sBadTable : Stmt := inClass (top 4) 0
theorem scBadTable : ScopeS (["self"] : List Str) (["self"] : List Str) (defScope sBadTable) := ⟨rfl, rfl, rfl, by decide +kernel, rfl, by decide +kernel, by decide +kernel, by decide +kernel⟩
def gBadTable : List D → Option (List D)
  | [] => if true then (some []) else none
  | _ => none
theorem ok_BadTable {f cc cda : Addr} {fd : FuncData} (Fn : FunS P K "__init__" "BadTable.__init__" sBadTable f cc cda (cs 2).1 fd) (T : EC K (cs 2).1 B newId initId bmB) (ec : (cs 2).2 = ([] : List Str)) (hs : mg "super" = none) (mTup : mg "tuple" = none) (nt : ∀ n ∈ ([] : List Str), PySem.W.takerIn K (cs 2).1 n = some none) :
    FnOk P w K mg base (L2.CX P w) 1 f fd (["self"] : List Str) (spX K cs 2 0 gBadTable) := by
  refine fnX (ps := ([] : List Str)) Fn T scBadTable rfl rfl rfl rfl (by decide +kernel) hs rfl (by rw [ec]; decide +kernel) (by rw [ec]; decide +kernel) (fun _ => rfl) (fun _ => rfl) (fun _ => ⟨_, rfl⟩) fun A outer s H E hr ds hl => ?_
  match ds, hl with
  | [], _ =>
    rw [ec]
    exact ⟨_, _, _, _, pm_str, pst_nil, rfl⟩
abbrev sBadTree : Stmt := inClass (top 5) 0
theorem scBadTree : ScopeS (["self"] : List Str) (["self"] : List Str) (defScope sBadTree) := ⟨rfl, rfl, rfl, by decide +kernel, rfl, by decide +kernel, by decide +kernel, by decide +kernel⟩
def gBadTree : List D → Option (List D)
  | [] => if true then (some []) else none
  | _ => none
theorem ok_BadTree {f cc cda : Addr} {fd : FuncData} (Fn : FunS P K "__init__" "BadTree.__init__" sBadTree f cc cda (cs 3).1 fd) (T : EC K (cs 3).1 B newId initId bmB) (ec : (cs 3).2 = ([] : List Str)) (hs : mg "super" = none) (mTup : mg "tuple" = none) (nt : ∀ n ∈ ([] : List Str), PySem.W.takerIn K (cs 3).1 n = some none) :
    FnOk P w K mg base (L2.CX P w) 1 f fd (["self"] : List Str) (spX K cs 3 0 gBadTree) := by
  refine fnX (ps := ([] : List Str)) Fn T scBadTree rfl rfl rfl rfl (by decide +kernel) hs rfl (by rw [ec]; decide +kernel) (by rw [ec]; decide +kernel) (fun _ => rfl) (fun _ => rfl) (fun _ => ⟨_, rfl⟩) fun A outer s H E hr ds hl => ?_
  match ds, hl with
  | [], _ =>
    rw [ec]
    exact ⟨_, _, _, _, pm_str, pst_nil, rfl⟩
abbrev sMixedScales : Stmt := inClass (top 6) 0
theorem scMixedScales : ScopeS (["self"] : List Str) (["self"] : List Str) (defScope sMixedScales) := ⟨rfl, rfl, rfl, by decide +kernel, rfl, by decide +kernel, by decide +kernel, by decide +kernel⟩
def gMixedScales : List D → Option (List D)
  | [] => if true then (some []) else none
  | _ => none
theorem ok_MixedScales {f cc cda : Addr} {fd : FuncData} (Fn : FunS P K "__init__" "MixedScales.__init__" sMixedScales f cc cda (cs 4).1 fd) (T : EC K (cs 4).1 B newId initId bmB) (ec : (cs 4).2 = ([] : List Str)) (hs : mg "super" = none) (mTup : mg "tuple" = none) (nt : ∀ n ∈ ([] : List Str), PySem.W.takerIn K (cs 4).1 n = some none) :
    FnOk P w K mg base (L2.CX P w) 1 f fd (["self"] : List Str) (spX K cs 4 0 gMixedScales) := by
  refine fnX (ps := ([] : List Str)) Fn T scMixedScales rfl rfl rfl rfl (by decide +kernel) hs rfl (by rw [ec]; decide +kernel) (by rw [ec]; decide +kernel) (fun _ => rfl) (fun _ => rfl) (fun _ => ⟨_, rfl⟩) fun A outer s H E hr ds hl => ?_
  match ds, hl with
  | [], _ =>
    rw [ec]
    exact ⟨_, _, _, _, pm_str, pst_nil, rfl⟩
abbrev sNotSteady : Stmt := inClass (top 7) 0
theorem scNotSteady : ScopeS (["self"] : List Str) (["self"] : List Str) (defScope sNotSteady) := ⟨rfl, rfl, rfl, by decide +kernel, rfl, by decide +kernel, by decide +kernel, by decide +kernel⟩
def gNotSteady : List D → Option (List D)
  | [] => if true then (some []) else none
  | _ => none
theorem ok_NotSteady {f cc cda : Addr} {fd : FuncData} (Fn : FunS P K "__init__" "NotSteady.__init__" sNotSteady f cc cda (cs 5).1 fd) (T : EC K (cs 5).1 B newId initId bmB) (ec : (cs 5).2 = ([] : List Str)) (hs : mg "super" = none) (mTup : mg "tuple" = none) (nt : ∀ n ∈ ([] : List Str), PySem.W.takerIn K (cs 5).1 n = some none) :
    FnOk P w K mg base (L2.CX P w) 1 f fd (["self"] : List Str) (spX K cs 5 0 gNotSteady) := by
  refine fnX (ps := ([] : List Str)) Fn T scNotSteady rfl rfl rfl rfl (by decide +kernel) hs rfl (by rw [ec]; decide +kernel) (by rw [ec]; decide +kernel) (fun _ => rfl) (fun _ => rfl) (fun _ => ⟨_, rfl⟩) fun A outer s H E hr ds hl => ?_
  match ds, hl with
  | [], _ =>
    rw [ec]
    exact ⟨_, _, _, _, pm_str, pst_nil, rfl⟩
abbrev sTooMany : Stmt := inClass (top 8) 0
theorem scTooMany : ScopeS (["self"] : List Str) (["self"] : List Str) (defScope sTooMany) := ⟨rfl, rfl, rfl, by decide +kernel, rfl, by decide +kernel, by decide +kernel, by decide +kernel⟩
def gTooMany : List D → Option (List D)
  | [] => if true then (some []) else none
  | _ => none
theorem ok_TooMany {f cc cda : Addr} {fd : FuncData} (Fn : FunS P K "__init__" "TooMany.__init__" sTooMany f cc cda (cs 6).1 fd) (T : EC K (cs 6).1 B newId initId bmB) (ec : (cs 6).2 = ([] : List Str)) (hs : mg "super" = none) (mTup : mg "tuple" = none) (nt : ∀ n ∈ ([] : List Str), PySem.W.takerIn K (cs 6).1 n = some none) :
    FnOk P w K mg base (L2.CX P w) 1 f fd (["self"] : List Str) (spX K cs 6 0 gTooMany) := by
  refine fnX (ps := ([] : List Str)) Fn T scTooMany rfl rfl rfl rfl (by decide +kernel) hs rfl (by rw [ec]; decide +kernel) (by rw [ec]; decide +kernel) (fun _ => rfl) (fun _ => rfl) (fun _ => ⟨_, rfl⟩) fun A outer s H E hr ds hl => ?_
  match ds, hl with
  | [], _ =>
    rw [ec]
    exact ⟨_, _, _, _, pm_str, pst_nil, rfl⟩
abbrev sNothingDone : Stmt := inClass (top 9) 0
theorem scNothingDone : ScopeS (["self"] : List Str) (["self"] : List Str) (defScope sNothingDone) := ⟨rfl, rfl, rfl, by decide +kernel, rfl, by decide +kernel, by decide +kernel, by decide +kernel⟩
def gNothingDone : List D → Option (List D)
  | [] => if true then (some []) else none
  | _ => none
theorem ok_NothingDone {f cc cda : Addr} {fd : FuncData} (Fn : FunS P K "__init__" "NothingDone.__init__" sNothingDone f cc cda (cs 7).1 fd) (T : EC K (cs 7).1 B newId initId bmB) (ec : (cs 7).2 = ([] : List Str)) (hs : mg "super" = none) (mTup : mg "tuple" = none) (nt : ∀ n ∈ ([] : List Str), PySem.W.takerIn K (cs 7).1 n = some none) :
    FnOk P w K mg base (L2.CX P w) 1 f fd (["self"] : List Str) (spX K cs 7 0 gNothingDone) := by
  refine fnX (ps := ([] : List Str)) Fn T scNothingDone rfl rfl rfl rfl (by decide +kernel) hs rfl (by rw [ec]; decide +kernel) (by rw [ec]; decide +kernel) (fun _ => rfl) (fun _ => rfl) (fun _ => ⟨_, rfl⟩) fun A outer s H E hr ds hl => ?_
  match ds, hl with
  | [], _ =>
    rw [ec]
    exact ⟨_, _, _, _, pm_str, pst_nil, rfl⟩
abbrev sBadRule : Stmt := inClass (top 10) 0
theorem scBadRule : ScopeS (["self", "number"] : List Str) (["self", "number"] : List Str) (defScope sBadRule) := ⟨rfl, rfl, rfl, by decide +kernel, rfl, by decide +kernel, by decide +kernel, by decide +kernel⟩
def gBadRule : List D → Option (List D)
  | [a1] => if (true && (msgOk a1 && (true && true))) then ((some a1).bind fun d => ((some [])).map (d :: ·)) else none
  | _ => none
theorem ok_BadRule {f cc cda : Addr} {fd : FuncData} (Fn : FunS P K "__init__" "BadRule.__init__" sBadRule f cc cda (cs 8).1 fd) (T : EC K (cs 8).1 B newId initId bmB) (ec : (cs 8).2 = (["number"] : List Str)) (hs : mg "super" = none) (mTup : mg "tuple" = none) (nt : ∀ n ∈ (["number"] : List Str), PySem.W.takerIn K (cs 8).1 n = some none) :
    FnOk P w K mg base (L2.CX P w) 1 f fd (["self", "number"] : List Str) (spX K cs 8 1 gBadRule) := by
  refine fnX (ps := (["number"] : List Str)) Fn T scBadRule rfl rfl rfl rfl (by decide +kernel) hs rfl (by rw [ec]; decide +kernel) (by rw [ec]; decide +kernel) (fun _ => rfl) (fun _ => rfl) (fun _ => ⟨_, rfl⟩) fun A outer s H E hr ds hl => ?_
  match ds, hl with
  | [a1], _ =>
    rw [ec]
    exact ⟨_, _, _, _, (pm_joined (.cons pp_strT (.cons (pp_fmt (i := 1) (pv 1) (fun _ => rfl)) (.cons pp_strT .nil))) (by simp)), (pst_cons T (nt "number" (by simp)) (pv 0) (pd_var (i := 1) (pv 1) (fun _ => rfl)) pst_nil), rfl⟩
abbrev sBadRow : Stmt := inClass (top 11) 0
theorem scBadRow : ScopeS (["self", "number"] : List Str) (["self", "number"] : List Str) (defScope sBadRow) := ⟨rfl, rfl, rfl, by decide +kernel, rfl, by decide +kernel, by decide +kernel, by decide +kernel⟩
def gBadRow : List D → Option (List D)
  | [a1] => if (true && (msgOk a1 && (true && true))) then ((some a1).bind fun d => ((some [])).map (d :: ·)) else none
  | _ => none
theorem ok_BadRow {f cc cda : Addr} {fd : FuncData} (Fn : FunS P K "__init__" "BadRow.__init__" sBadRow f cc cda (cs 9).1 fd) (T : EC K (cs 9).1 B newId initId bmB) (ec : (cs 9).2 = (["number"] : List Str)) (hs : mg "super" = none) (mTup : mg "tuple" = none) (nt : ∀ n ∈ (["number"] : List Str), PySem.W.takerIn K (cs 9).1 n = some none) :
    FnOk P w K mg base (L2.CX P w) 1 f fd (["self", "number"] : List Str) (spX K cs 9 1 gBadRow) := by
  refine fnX (ps := (["number"] : List Str)) Fn T scBadRow rfl rfl rfl rfl (by decide +kernel) hs rfl (by rw [ec]; decide +kernel) (by rw [ec]; decide +kernel) (fun _ => rfl) (fun _ => rfl) (fun _ => ⟨_, rfl⟩) fun A outer s H E hr ds hl => ?_
  match ds, hl with
  | [a1], _ =>
    rw [ec]
    exact ⟨_, _, _, _, (pm_joined (.cons pp_strT (.cons (pp_fmt (i := 1) (pv 1) (fun _ => rfl)) (.cons pp_strT .nil))) (by simp)), (pst_cons T (nt "number" (by simp)) (pv 0) (pd_var (i := 1) (pv 1) (fun _ => rfl)) pst_nil), rfl⟩
abbrev sNoRule : Stmt := inClass (top 12) 0
theorem scNoRule : ScopeS (["self", "number"] : List Str) (["self", "number"] : List Str) (defScope sNoRule) := ⟨rfl, rfl, rfl, by decide +kernel, rfl, by decide +kernel, by decide +kernel, by decide +kernel⟩
def gNoRule : List D → Option (List D)
  | [a1] => if (true && (msgOk a1 && true)) then ((some a1).bind fun d => ((some [])).map (d :: ·)) else none
  | _ => none
theorem ok_NoRule {f cc cda : Addr} {fd : FuncData} (Fn : FunS P K "__init__" "NoRule.__init__" sNoRule f cc cda (cs 10).1 fd) (T : EC K (cs 10).1 B newId initId bmB) (ec : (cs 10).2 = (["number"] : List Str)) (hs : mg "super" = none) (mTup : mg "tuple" = none) (nt : ∀ n ∈ (["number"] : List Str), PySem.W.takerIn K (cs 10).1 n = some none) :
    FnOk P w K mg base (L2.CX P w) 1 f fd (["self", "number"] : List Str) (spX K cs 10 1 gNoRule) := by
  refine fnX (ps := (["number"] : List Str)) Fn T scNoRule rfl rfl rfl rfl (by decide +kernel) hs rfl (by rw [ec]; decide +kernel) (by rw [ec]; decide +kernel) (fun _ => rfl) (fun _ => rfl) (fun _ => ⟨_, rfl⟩) fun A outer s H E hr ds hl => ?_
  match ds, hl with
  | [a1], _ =>
    rw [ec]
    exact ⟨_, _, _, _, (pm_joined (.cons pp_strT (.cons (pp_fmt (i := 1) (pv 1) (fun _ => rfl)) .nil)) (by simp)), (pst_cons T (nt "number" (by simp)) (pv 0) (pd_var (i := 1) (pv 1) (fun _ => rfl)) pst_nil), rfl⟩
abbrev sNotDerived : Stmt := inClass (top 13) 0
theorem scNotDerived : ScopeS (["self", "number", "place"] : List Str) (["self", "number", "place"] : List Str) (defScope sNotDerived) := ⟨rfl, rfl, rfl, by decide +kernel, rfl, by decide +kernel, by decide +kernel, by decide +kernel⟩
def gNotDerived : List D → Option (List D)
  | [a1, a2] => if (true && (msgOk a1 && (true && (msgOk a2 && true)))) then ((some a1).bind fun d => (((some a2).bind fun d => ((some [])).map (d :: ·))).map (d :: ·)) else none
  | _ => none
theorem ok_NotDerived {f cc cda : Addr} {fd : FuncData} (Fn : FunS P K "__init__" "NotDerived.__init__" sNotDerived f cc cda (cs 11).1 fd) (T : EC K (cs 11).1 B newId initId bmB) (ec : (cs 11).2 = (["number", "place"] : List Str)) (hs : mg "super" = none) (mTup : mg "tuple" = none) (nt : ∀ n ∈ (["number", "place"] : List Str), PySem.W.takerIn K (cs 11).1 n = some none) :
    FnOk P w K mg base (L2.CX P w) 1 f fd (["self", "number", "place"] : List Str) (spX K cs 11 2 gNotDerived) := by
  refine fnX (ps := (["number", "place"] : List Str)) Fn T scNotDerived rfl rfl rfl rfl (by decide +kernel) hs rfl (by rw [ec]; decide +kernel) (by rw [ec]; decide +kernel) (fun _ => rfl) (fun _ => rfl) (fun _ => ⟨_, rfl⟩) fun A outer s H E hr ds hl => ?_
  match ds, hl with
  | [a1, a2], _ =>
    rw [ec]
    exact ⟨_, _, _, _, (pm_joined (.cons pp_strT (.cons (pp_fmt (i := 1) (pv 1) (fun _ => rfl)) (.cons pp_strT (.cons (pp_fmt (i := 2) (pv 2) (fun _ => rfl)) .nil)))) (by simp)), (pst_cons T (nt "number" (by simp)) (pv 0) (pd_var (i := 1) (pv 1) (fun _ => rfl)) (pst_cons T (nt "place" (by simp)) (pv 0) (pd_var (i := 2) (pv 2) (fun _ => rfl)) pst_nil)), rfl⟩
abbrev sNotKept : Stmt := inClass (top 14) 0
theorem scNotKept : ScopeS (["self", "part", "members"] : List Str) (["self", "part", "members"] : List Str) (defScope sNotKept) := ⟨rfl, rfl, rfl, by decide +kernel, rfl, by decide +kernel, by decide +kernel, by decide +kernel⟩
def gNotKept : List D → Option (List D)
  | [a1, a2] => if (true && (msgOk a1 && true)) then ((some a1).bind fun d => (((okD (opt (tupleF a2) ())).bind fun d => ((some [])).map (d :: ·))).map (d :: ·)) else none
  | _ => none
theorem ok_NotKept {f cc cda : Addr} {fd : FuncData} (Fn : FunS P K "__init__" "NotKept.__init__" sNotKept f cc cda (cs 12).1 fd) (T : EC K (cs 12).1 B newId initId bmB) (ec : (cs 12).2 = (["part", "members"] : List Str)) (hs : mg "super" = none) (mTup : mg "tuple" = none) (nt : ∀ n ∈ (["part", "members"] : List Str), PySem.W.takerIn K (cs 12).1 n = some none) :
    FnOk P w K mg base (L2.CX P w) 1 f fd (["self", "part", "members"] : List Str) (spX K cs 12 2 gNotKept) := by
  refine fnX (ps := (["part", "members"] : List Str)) Fn T scNotKept rfl rfl rfl rfl (by decide +kernel) hs rfl (by rw [ec]; decide +kernel) (by rw [ec]; decide +kernel) (fun _ => rfl) (fun _ => rfl) (fun _ => ⟨_, rfl⟩) fun A outer s H E hr ds hl => ?_
  match ds, hl with
  | [a1, a2], _ =>
    rw [ec]
    exact ⟨_, _, _, _, (pm_joined (.cons pp_strT (.cons (pp_fmt (i := 1) (pv 1) (fun _ => rfl)) .nil)) (by simp)), (pst_cons T (nt "part" (by simp)) (pv 0) (pd_var (i := 1) (pv 1) (fun _ => rfl)) (pst_cons T (nt "members" (by simp)) (pv 0) (pd_cty1 call_tuple_of d_tuple (by rfl) mTup boot_tup (pd_var (i := 2) (pv 2) (fun _ => rfl)).pr) pst_nil)), rfl⟩
abbrev sBadText : Stmt := inClass (top 15) 0
theorem scBadText : ScopeS (["self", "place"] : List Str) (["self", "place"] : List Str) (defScope sBadText) := ⟨rfl, rfl, rfl, by decide +kernel, rfl, by decide +kernel, by decide +kernel, by decide +kernel⟩
def gBadText : List D → Option (List D)
  | [a1] => if (true && (msgOk a1 && (true && true))) then ((some a1).bind fun d => ((some [])).map (d :: ·)) else none
  | _ => none
theorem ok_BadText {f cc cda : Addr} {fd : FuncData} (Fn : FunS P K "__init__" "BadText.__init__" sBadText f cc cda (cs 13).1 fd) (T : EC K (cs 13).1 B newId initId bmB) (ec : (cs 13).2 = (["place"] : List Str)) (hs : mg "super" = none) (mTup : mg "tuple" = none) (nt : ∀ n ∈ (["place"] : List Str), PySem.W.takerIn K (cs 13).1 n = some none) :
    FnOk P w K mg base (L2.CX P w) 1 f fd (["self", "place"] : List Str) (spX K cs 13 1 gBadText) := by
  refine fnX (ps := (["place"] : List Str)) Fn T scBadText rfl rfl rfl rfl (by decide +kernel) hs rfl (by rw [ec]; decide +kernel) (by rw [ec]; decide +kernel) (fun _ => rfl) (fun _ => rfl) (fun _ => ⟨_, rfl⟩) fun A outer s H E hr ds hl => ?_
  match ds, hl with
  | [a1], _ =>
    rw [ec]
    exact ⟨_, _, _, _, (pm_joined (.cons pp_strT (.cons (pp_fmt (i := 1) (pv 1) (fun _ => rfl)) (.cons pp_strT .nil))) (by simp)), (pst_cons T (nt "place" (by simp)) (pv 0) (pd_var (i := 1) (pv 1) (fun _ => rfl)) pst_nil), rfl⟩
abbrev sGoesRound : Stmt := inClass (top 16) 0
theorem scGoesRound : ScopeS (["self", "start", "length"] : List Str) (["self", "start", "length"] : List Str) (defScope sGoesRound) := ⟨rfl, rfl, rfl, by decide +kernel, rfl, by decide +kernel, by decide +kernel, by decide +kernel⟩
def gGoesRound : List D → Option (List D)
  | [a1, a2] => if (true && (msgOk a1 && (true && (msgOk a2 && (true && true))))) then ((some a1).bind fun d => (((some a2).bind fun d => ((some [])).map (d :: ·))).map (d :: ·)) else none
  | _ => none
theorem ok_GoesRound {f cc cda : Addr} {fd : FuncData} (Fn : FunS P K "__init__" "GoesRound.__init__" sGoesRound f cc cda (cs 14).1 fd) (T : EC K (cs 14).1 B newId initId bmB) (ec : (cs 14).2 = (["start", "length"] : List Str)) (hs : mg "super" = none) (mTup : mg "tuple" = none) (nt : ∀ n ∈ (["start", "length"] : List Str), PySem.W.takerIn K (cs 14).1 n = some none) :
    FnOk P w K mg base (L2.CX P w) 1 f fd (["self", "start", "length"] : List Str) (spX K cs 14 2 gGoesRound) := by
  refine fnX (ps := (["start", "length"] : List Str)) Fn T scGoesRound rfl rfl rfl rfl (by decide +kernel) hs rfl (by rw [ec]; decide +kernel) (by rw [ec]; decide +kernel) (fun _ => rfl) (fun _ => rfl) (fun _ => ⟨_, rfl⟩) fun A outer s H E hr ds hl => ?_
  match ds, hl with
  | [a1, a2], _ =>
    rw [ec]
    exact ⟨_, _, _, _, (pm_joined (.cons pp_strT (.cons (pp_fmt (i := 1) (pv 1) (fun _ => rfl)) (.cons pp_strT (.cons (pp_fmt (i := 2) (pv 2) (fun _ => rfl)) (.cons pp_strT .nil))))) (by simp)), (pst_cons T (nt "start" (by simp)) (pv 0) (pd_var (i := 1) (pv 1) (fun _ => rfl)) (pst_cons T (nt "length" (by simp)) (pv 0) (pd_var (i := 2) (pv 2) (fun _ => rfl)) pst_nil)), rfl⟩
abbrev sBadName : Stmt := inClass (top 17) 0
theorem scBadName : ScopeS (["self", "name"] : List Str) (["self", "name"] : List Str) (defScope sBadName) := ⟨rfl, rfl, rfl, by decide +kernel, rfl, by decide +kernel, by decide +kernel, by decide +kernel⟩
def gBadName : List D → Option (List D)
  | [a1] => if (true && (msgOk a1 && true)) then ((some a1).bind fun d => ((some [])).map (d :: ·)) else none
  | _ => none
theorem ok_BadName {f cc cda : Addr} {fd : FuncData} (Fn : FunS P K "__init__" "BadName.__init__" sBadName f cc cda (cs 15).1 fd) (T : EC K (cs 15).1 B newId initId bmB) (ec : (cs 15).2 = (["name"] : List Str)) (hs : mg "super" = none) (mTup : mg "tuple" = none) (nt : ∀ n ∈ (["name"] : List Str), PySem.W.takerIn K (cs 15).1 n = some none) :
    FnOk P w K mg base (L2.CX P w) 1 f fd (["self", "name"] : List Str) (spX K cs 15 1 gBadName) := by
  refine fnX (ps := (["name"] : List Str)) Fn T scBadName rfl rfl rfl rfl (by decide +kernel) hs rfl (by rw [ec]; decide +kernel) (by rw [ec]; decide +kernel) (fun _ => rfl) (fun _ => rfl) (fun _ => ⟨_, rfl⟩) fun A outer s H E hr ds hl => ?_
  match ds, hl with
  | [a1], _ =>
    rw [ec]
    exact ⟨_, _, _, _, (pm_joined (.cons pp_strT (.cons (pp_fmtR (i := 1) (pv 1) (fun _ => rfl)) .nil)) (by simp)), (pst_cons T (nt "name" (by simp)) (pv 0) (pd_var (i := 1) (pv 1) (fun _ => rfl)) pst_nil), rfl⟩
abbrev sBadArity : Stmt := inClass (top 18) 0
theorem scBadArity : ScopeS (["self", "name"] : List Str) (["self", "name"] : List Str) (defScope sBadArity) := ⟨rfl, rfl, rfl, by decide +kernel, rfl, by decide +kernel, by decide +kernel, by decide +kernel⟩
def gBadArity : List D → Option (List D)
  | [a1] => if (true && (msgOk a1 && true)) then ((some a1).bind fun d => ((some [])).map (d :: ·)) else none
  | _ => none
theorem ok_BadArity {f cc cda : Addr} {fd : FuncData} (Fn : FunS P K "__init__" "BadArity.__init__" sBadArity f cc cda (cs 16).1 fd) (T : EC K (cs 16).1 B newId initId bmB) (ec : (cs 16).2 = (["name"] : List Str)) (hs : mg "super" = none) (mTup : mg "tuple" = none) (nt : ∀ n ∈ (["name"] : List Str), PySem.W.takerIn K (cs 16).1 n = some none) :
    FnOk P w K mg base (L2.CX P w) 1 f fd (["self", "name"] : List Str) (spX K cs 16 1 gBadArity) := by
  refine fnX (ps := (["name"] : List Str)) Fn T scBadArity rfl rfl rfl rfl (by decide +kernel) hs rfl (by rw [ec]; decide +kernel) (by rw [ec]; decide +kernel) (fun _ => rfl) (fun _ => rfl) (fun _ => ⟨_, rfl⟩) fun A outer s H E hr ds hl => ?_
  match ds, hl with
  | [a1], _ =>
    rw [ec]
    exact ⟨_, _, _, _, (pm_joined (.cons pp_strT (.cons (pp_fmtR (i := 1) (pv 1) (fun _ => rfl)) .nil)) (by simp)), (pst_cons T (nt "name" (by simp)) (pv 0) (pd_var (i := 1) (pv 1) (fun _ => rfl)) pst_nil), rfl⟩
abbrev sDerivedRow : Stmt := inClass (top 19) 0
theorem scDerivedRow : ScopeS (["self", "name"] : List Str) (["self", "name"] : List Str) (defScope sDerivedRow) := ⟨rfl, rfl, rfl, by decide +kernel, rfl, by decide +kernel, by decide +kernel, by decide +kernel⟩
def gDerivedRow : List D → Option (List D)
  | [a1] => if (true && (msgOk a1 && true)) then ((some a1).bind fun d => ((some [])).map (d :: ·)) else none
  | _ => none
theorem ok_DerivedRow {f cc cda : Addr} {fd : FuncData} (Fn : FunS P K "__init__" "DerivedRow.__init__" sDerivedRow f cc cda (cs 17).1 fd) (T : EC K (cs 17).1 B newId initId bmB) (ec : (cs 17).2 = (["name"] : List Str)) (hs : mg "super" = none) (mTup : mg "tuple" = none) (nt : ∀ n ∈ (["name"] : List Str), PySem.W.takerIn K (cs 17).1 n = some none) :
    FnOk P w K mg base (L2.CX P w) 1 f fd (["self", "name"] : List Str) (spX K cs 17 1 gDerivedRow) := by
  refine fnX (ps := (["name"] : List Str)) Fn T scDerivedRow rfl rfl rfl rfl (by decide +kernel) hs rfl (by rw [ec]; decide +kernel) (by rw [ec]; decide +kernel) (fun _ => rfl) (fun _ => rfl) (fun _ => ⟨_, rfl⟩) fun A outer s H E hr ds hl => ?_
  match ds, hl with
  | [a1], _ =>
    rw [ec]
    exact ⟨_, _, _, _, (pm_joined (.cons pp_strT (.cons (pp_fmtR (i := 1) (pv 1) (fun _ => rfl)) .nil)) (by simp)), (pst_cons T (nt "name" (by simp)) (pv 0) (pd_var (i := 1) (pv 1) (fun _ => rfl)) pst_nil), rfl⟩
abbrev sBadThing : Stmt := inClass (top 20) 0
theorem scBadThing : ScopeS (["self", "name"] : List Str) (["self", "name"] : List Str) (defScope sBadThing) := ⟨rfl, rfl, rfl, by decide +kernel, rfl, by decide +kernel, by decide +kernel, by decide +kernel⟩
def gBadThing : List D → Option (List D)
  | [a1] => if (true && (msgOk a1 && true)) then ((some a1).bind fun d => ((some [])).map (d :: ·)) else none
  | _ => none
theorem ok_BadThing {f cc cda : Addr} {fd : FuncData} (Fn : FunS P K "__init__" "BadThing.__init__" sBadThing f cc cda (cs 18).1 fd) (T : EC K (cs 18).1 B newId initId bmB) (ec : (cs 18).2 = (["name"] : List Str)) (hs : mg "super" = none) (mTup : mg "tuple" = none) (nt : ∀ n ∈ (["name"] : List Str), PySem.W.takerIn K (cs 18).1 n = some none) :
    FnOk P w K mg base (L2.CX P w) 1 f fd (["self", "name"] : List Str) (spX K cs 18 1 gBadThing) := by
  refine fnX (ps := (["name"] : List Str)) Fn T scBadThing rfl rfl rfl rfl (by decide +kernel) hs rfl (by rw [ec]; decide +kernel) (by rw [ec]; decide +kernel) (fun _ => rfl) (fun _ => rfl) (fun _ => ⟨_, rfl⟩) fun A outer s H E hr ds hl => ?_
  match ds, hl with
  | [a1], _ =>
    rw [ec]
    exact ⟨_, _, _, _, (pm_joined (.cons pp_strT (.cons (pp_fmtR (i := 1) (pv 1) (fun _ => rfl)) .nil)) (by simp)), (pst_cons T (nt "name" (by simp)) (pv 0) (pd_var (i := 1) (pv 1) (fun _ => rfl)) pst_nil), rfl⟩
abbrev sTwiceTold : Stmt := inClass (top 21) 0
theorem scTwiceTold : ScopeS (["self", "name", "filled"] : List Str) (["self", "name", "filled"] : List Str) (defScope sTwiceTold) := ⟨rfl, rfl, rfl, by decide +kernel, rfl, by decide +kernel, by decide +kernel, by decide +kernel⟩
def gTwiceTold : List D → Option (List D)
  | [a1, a2] => if (true && (msgOk a1 && true)) then ((some a1).bind fun d => (((okD (opt (tupleF a2) ())).bind fun d => ((some [])).map (d :: ·))).map (d :: ·)) else none
  | _ => none
theorem ok_TwiceTold {f cc cda : Addr} {fd : FuncData} (Fn : FunS P K "__init__" "TwiceTold.__init__" sTwiceTold f cc cda (cs 19).1 fd) (T : EC K (cs 19).1 B newId initId bmB) (ec : (cs 19).2 = (["name", "filled"] : List Str)) (hs : mg "super" = none) (mTup : mg "tuple" = none) (nt : ∀ n ∈ (["name", "filled"] : List Str), PySem.W.takerIn K (cs 19).1 n = some none) :
    FnOk P w K mg base (L2.CX P w) 1 f fd (["self", "name", "filled"] : List Str) (spX K cs 19 2 gTwiceTold) := by
  refine fnX (ps := (["name", "filled"] : List Str)) Fn T scTwiceTold rfl rfl rfl rfl (by decide +kernel) hs rfl (by rw [ec]; decide +kernel) (by rw [ec]; decide +kernel) (fun _ => rfl) (fun _ => rfl) (fun _ => ⟨_, rfl⟩) fun A outer s H E hr ds hl => ?_
  match ds, hl with
  | [a1, a2], _ =>
    rw [ec]
    exact ⟨_, _, _, _, (pm_joined (.cons pp_strT (.cons (pp_fmtR (i := 1) (pv 1) (fun _ => rfl)) .nil)) (by simp)), (pst_cons T (nt "name" (by simp)) (pv 0) (pd_var (i := 1) (pv 1) (fun _ => rfl)) (pst_cons T (nt "filled" (by simp)) (pv 0) (pd_cty1 call_tuple_of d_tuple (by rfl) mTup boot_tup (pd_var (i := 2) (pv 2) (fun _ => rfl)).pr) pst_nil)), rfl⟩
abbrev sUnknownWorth : Stmt := inClass (top 23) 0
theorem scUnknownWorth : ScopeS (["self", "name"] : List Str) (["self", "name"] : List Str) (defScope sUnknownWorth) := ⟨rfl, rfl, rfl, by decide +kernel, rfl, by decide +kernel, by decide +kernel, by decide +kernel⟩
def gUnknownWorth : List D → Option (List D)
  | [a1] => if (true && (msgOk a1 && true)) then ((some a1).bind fun d => ((some [])).map (d :: ·)) else none
  | _ => none
theorem ok_UnknownWorth {f cc cda : Addr} {fd : FuncData} (Fn : FunS P K "__init__" "UnknownWorth.__init__" sUnknownWorth f cc cda (cs 20).1 fd) (T : EC K (cs 20).1 B newId initId bmB) (ec : (cs 20).2 = (["name"] : List Str)) (hs : mg "super" = none) (mTup : mg "tuple" = none) (nt : ∀ n ∈ (["name"] : List Str), PySem.W.takerIn K (cs 20).1 n = some none) :
    FnOk P w K mg base (L2.CX P w) 1 f fd (["self", "name"] : List Str) (spX K cs 20 1 gUnknownWorth) := by
  refine fnX (ps := (["name"] : List Str)) Fn T scUnknownWorth rfl rfl rfl rfl (by decide +kernel) hs rfl (by rw [ec]; decide +kernel) (by rw [ec]; decide +kernel) (fun _ => rfl) (fun _ => rfl) (fun _ => ⟨_, rfl⟩) fun A outer s H E hr ds hl => ?_
  match ds, hl with
  | [a1], _ =>
    rw [ec]
    exact ⟨_, _, _, _, (pm_joined (.cons pp_strT (.cons (pp_fmtR (i := 1) (pv 1) (fun _ => rfl)) .nil)) (by simp)), (pst_cons T (nt "name" (by simp)) (pv 0) (pd_var (i := 1) (pv 1) (fun _ => rfl)) pst_nil), rfl⟩
abbrev sUnknownName : Stmt := inClass (top 24) 0
theorem scUnknownName : ScopeS (["self", "name"] : List Str) (["self", "name"] : List Str) (defScope sUnknownName) := ⟨rfl, rfl, rfl, by decide +kernel, rfl, by decide +kernel, by decide +kernel, by decide +kernel⟩
def gUnknownName : List D → Option (List D)
  | [a1] => if (true && (msgOk a1 && true)) then ((some a1).bind fun d => ((some [])).map (d :: ·)) else none
  | _ => none
theorem ok_UnknownName {f cc cda : Addr} {fd : FuncData} (Fn : FunS P K "__init__" "UnknownName.__init__" sUnknownName f cc cda (cs 21).1 fd) (T : EC K (cs 21).1 B newId initId bmB) (ec : (cs 21).2 = (["name"] : List Str)) (hs : mg "super" = none) (mTup : mg "tuple" = none) (nt : ∀ n ∈ (["name"] : List Str), PySem.W.takerIn K (cs 21).1 n = some none) :
    FnOk P w K mg base (L2.CX P w) 1 f fd (["self", "name"] : List Str) (spX K cs 21 1 gUnknownName) := by
  refine fnX (ps := (["name"] : List Str)) Fn T scUnknownName rfl rfl rfl rfl (by decide +kernel) hs rfl (by rw [ec]; decide +kernel) (by rw [ec]; decide +kernel) (fun _ => rfl) (fun _ => rfl) (fun _ => ⟨_, rfl⟩) fun A outer s H E hr ds hl => ?_
  match ds, hl with
  | [a1], _ =>
    rw [ec]
    exact ⟨_, _, _, _, (pm_joined (.cons pp_strT (.cons (pp_fmtR (i := 1) (pv 1) (fun _ => rfl)) .nil)) (by simp)), (pst_cons T (nt "name" (by simp)) (pv 0) (pd_var (i := 1) (pv 1) (fun _ => rfl)) pst_nil), rfl⟩
abbrev sUnknownThing : Stmt := inClass (top 25) 0
theorem scUnknownThing : ScopeS (["self", "name"] : List Str) (["self", "name"] : List Str) (defScope sUnknownThing) := ⟨rfl, rfl, rfl, by decide +kernel, rfl, by decide +kernel, by decide +kernel, by decide +kernel⟩
def gUnknownThing : List D → Option (List D)
  | [a1] => if (true && (msgOk a1 && true)) then ((some a1).bind fun d => ((some [])).map (d :: ·)) else none
  | _ => none
theorem ok_UnknownThing {f cc cda : Addr} {fd : FuncData} (Fn : FunS P K "__init__" "UnknownThing.__init__" sUnknownThing f cc cda (cs 22).1 fd) (T : EC K (cs 22).1 B newId initId bmB) (ec : (cs 22).2 = (["name"] : List Str)) (hs : mg "super" = none) (mTup : mg "tuple" = none) (nt : ∀ n ∈ (["name"] : List Str), PySem.W.takerIn K (cs 22).1 n = some none) :
    FnOk P w K mg base (L2.CX P w) 1 f fd (["self", "name"] : List Str) (spX K cs 22 1 gUnknownThing) := by
  refine fnX (ps := (["name"] : List Str)) Fn T scUnknownThing rfl rfl rfl rfl (by decide +kernel) hs rfl (by rw [ec]; decide +kernel) (by rw [ec]; decide +kernel) (fun _ => rfl) (fun _ => rfl) (fun _ => ⟨_, rfl⟩) fun A outer s H E hr ds hl => ?_
  match ds, hl with
  | [a1], _ =>
    rw [ec]
    exact ⟨_, _, _, _, (pm_joined (.cons pp_strT (.cons (pp_fmtR (i := 1) (pv 1) (fun _ => rfl)) .nil)) (by simp)), (pst_cons T (nt "name" (by simp)) (pv 0) (pd_var (i := 1) (pv 1) (fun _ => rfl)) pst_nil), rfl⟩
abbrev sNotTold : Stmt := inClass (top 26) 0
theorem scNotTold : ScopeS (["self", "name"] : List Str) (["self", "name"] : List Str) (defScope sNotTold) := ⟨rfl, rfl, rfl, by decide +kernel, rfl, by decide +kernel, by decide +kernel, by decide +kernel⟩
def gNotTold : List D → Option (List D)
  | [a1] => if (true && (msgOk a1 && true)) then ((some a1).bind fun d => ((some [])).map (d :: ·)) else none
  | _ => none
theorem ok_NotTold {f cc cda : Addr} {fd : FuncData} (Fn : FunS P K "__init__" "NotTold.__init__" sNotTold f cc cda (cs 23).1 fd) (T : EC K (cs 23).1 B newId initId bmB) (ec : (cs 23).2 = (["name"] : List Str)) (hs : mg "super" = none) (mTup : mg "tuple" = none) (nt : ∀ n ∈ (["name"] : List Str), PySem.W.takerIn K (cs 23).1 n = some none) :
    FnOk P w K mg base (L2.CX P w) 1 f fd (["self", "name"] : List Str) (spX K cs 23 1 gNotTold) := by
  refine fnX (ps := (["name"] : List Str)) Fn T scNotTold rfl rfl rfl rfl (by decide +kernel) hs rfl (by rw [ec]; decide +kernel) (by rw [ec]; decide +kernel) (fun _ => rfl) (fun _ => rfl) (fun _ => ⟨_, rfl⟩) fun A outer s H E hr ds hl => ?_
  match ds, hl with
  | [a1], _ =>
    rw [ec]
    exact ⟨_, _, _, _, (pm_joined (.cons pp_strT (.cons (pp_fmtR (i := 1) (pv 1) (fun _ => rfl)) .nil)) (by simp)), (pst_cons T (nt "name" (by simp)) (pv 0) (pd_var (i := 1) (pv 1) (fun _ => rfl)) pst_nil), rfl⟩
abbrev sUnknownFact : Stmt := inClass (top 27) 0
theorem scUnknownFact : ScopeS (["self", "fact"] : List Str) (["self", "fact"] : List Str) (defScope sUnknownFact) := ⟨rfl, rfl, rfl, by decide +kernel, rfl, by decide +kernel, by decide +kernel, by decide +kernel⟩
def gUnknownFact : List D → Option (List D)
  | [a1] => if true then ((some a1).bind fun d => ((some [])).map (d :: ·)) else none
  | _ => none
theorem ok_UnknownFact {f cc cda : Addr} {fd : FuncData} (Fn : FunS P K "__init__" "UnknownFact.__init__" sUnknownFact f cc cda (cs 24).1 fd) (T : EC K (cs 24).1 B newId initId bmB) (ec : (cs 24).2 = (["fact"] : List Str)) (hs : mg "super" = none) (mTup : mg "tuple" = none) (nt : ∀ n ∈ (["fact"] : List Str), PySem.W.takerIn K (cs 24).1 n = some none) :
    FnOk P w K mg base (L2.CX P w) 1 f fd (["self", "fact"] : List Str) (spX K cs 24 1 gUnknownFact) := by
  refine fnX (ps := (["fact"] : List Str)) Fn T scUnknownFact rfl rfl rfl rfl (by decide +kernel) hs rfl (by rw [ec]; decide +kernel) (by rw [ec]; decide +kernel) (fun _ => rfl) (fun _ => rfl) (fun _ => ⟨_, rfl⟩) fun A outer s H E hr ds hl => ?_
  match ds, hl with
  | [a1], _ =>
    rw [ec]
    exact ⟨_, _, _, _, pm_str, (pst_cons T (nt "fact" (by simp)) (pv 0) (pd_var (i := 1) (pv 1) (fun _ => rfl)) pst_nil), rfl⟩
abbrev sNoRow : Stmt := inClass (top 28) 0
theorem scNoRow : ScopeS (["self", "name", "filled"] : List Str) (["self", "name", "filled"] : List Str) (defScope sNoRow) := ⟨rfl, rfl, rfl, by decide +kernel, rfl, by decide +kernel, by decide +kernel, by decide +kernel⟩
def gNoRow : List D → Option (List D)
  | [a1, a2] => if (true && (msgOk a1 && true)) then ((some a1).bind fun d => (((okD (opt (tupleF a2) ())).bind fun d => ((some [])).map (d :: ·))).map (d :: ·)) else none
  | _ => none
theorem ok_NoRow {f cc cda : Addr} {fd : FuncData} (Fn : FunS P K "__init__" "NoRow.__init__" sNoRow f cc cda (cs 25).1 fd) (T : EC K (cs 25).1 B newId initId bmB) (ec : (cs 25).2 = (["name", "filled"] : List Str)) (hs : mg "super" = none) (mTup : mg "tuple" = none) (nt : ∀ n ∈ (["name", "filled"] : List Str), PySem.W.takerIn K (cs 25).1 n = some none) :
    FnOk P w K mg base (L2.CX P w) 1 f fd (["self", "name", "filled"] : List Str) (spX K cs 25 2 gNoRow) := by
  refine fnX (ps := (["name", "filled"] : List Str)) Fn T scNoRow rfl rfl rfl rfl (by decide +kernel) hs rfl (by rw [ec]; decide +kernel) (by rw [ec]; decide +kernel) (fun _ => rfl) (fun _ => rfl) (fun _ => ⟨_, rfl⟩) fun A outer s H E hr ds hl => ?_
  match ds, hl with
  | [a1, a2], _ =>
    rw [ec]
    exact ⟨_, _, _, _, (pm_joined (.cons pp_strT (.cons (pp_fmtR (i := 1) (pv 1) (fun _ => rfl)) .nil)) (by simp)), (pst_cons T (nt "name" (by simp)) (pv 0) (pd_var (i := 1) (pv 1) (fun _ => rfl)) (pst_cons T (nt "filled" (by simp)) (pv 0) (pd_cty1 call_tuple_of d_tuple (by rfl) mTup boot_tup (pd_var (i := 2) (pv 2) (fun _ => rfl)).pr) pst_nil)), rfl⟩
end
def names91 : List (List Str) := [([] : List Str), ([] : List Str), ([] : List Str), ([] : List Str), ([] : List Str), ([] : List Str), ([] : List Str), ([] : List Str), (["number"] : List Str), (["number"] : List Str), (["number"] : List Str), (["number", "place"] : List Str), (["part", "members"] : List Str), (["place"] : List Str), (["start", "length"] : List Str), (["name"] : List Str), (["name"] : List Str), (["name"] : List Str), (["name"] : List Str), (["name", "filled"] : List Str), (["name"] : List Str), (["name"] : List Str), (["name"] : List Str), (["name"] : List Str), (["fact"] : List Str), (["name", "filled"] : List Str)]
end HD
set_option maxRecDepth 100000
set_option maxHeartbeats 4000000
namespace HD
open PySem PySem.Spec PyProof.Rows L2
/-- the classes as the top has made them -/
structure XAll (P : Program) (w : World) (K : PySem.W.Frag) (mg : Str → Option Value) (base : Heap) (cs : Cs) : Prop where
  m0 : XM P w K mg base cs 0 ([] : List Str) gBadScale
  n0 : mg "BadScale" = some (.ref (cs 0).1)
  m1 : XM P w K mg base cs 1 ([] : List Str) gBadImages
  n1 : mg "BadImages" = some (.ref (cs 1).1)
  m2 : XM P w K mg base cs 2 ([] : List Str) gBadTable
  n2 : mg "BadTable" = some (.ref (cs 2).1)
  m3 : XM P w K mg base cs 3 ([] : List Str) gBadTree
  n3 : mg "BadTree" = some (.ref (cs 3).1)
  m4 : XM P w K mg base cs 4 ([] : List Str) gMixedScales
  n4 : mg "MixedScales" = some (.ref (cs 4).1)
  m5 : XM P w K mg base cs 5 ([] : List Str) gNotSteady
  n5 : mg "NotSteady" = some (.ref (cs 5).1)
  m6 : XM P w K mg base cs 6 ([] : List Str) gTooMany
  n6 : mg "TooMany" = some (.ref (cs 6).1)
  m7 : XM P w K mg base cs 7 ([] : List Str) gNothingDone
  n7 : mg "NothingDone" = some (.ref (cs 7).1)
  m8 : XM P w K mg base cs 8 (["number"] : List Str) gBadRule
  n8 : mg "BadRule" = some (.ref (cs 8).1)
  m9 : XM P w K mg base cs 9 (["number"] : List Str) gBadRow
  n9 : mg "BadRow" = some (.ref (cs 9).1)
  m10 : XM P w K mg base cs 10 (["number"] : List Str) gNoRule
  n10 : mg "NoRule" = some (.ref (cs 10).1)
  m11 : XM P w K mg base cs 11 (["number", "place"] : List Str) gNotDerived
  n11 : mg "NotDerived" = some (.ref (cs 11).1)
  m12 : XM P w K mg base cs 12 (["part", "members"] : List Str) gNotKept
  n12 : mg "NotKept" = some (.ref (cs 12).1)
  m13 : XM P w K mg base cs 13 (["place"] : List Str) gBadText
  n13 : mg "BadText" = some (.ref (cs 13).1)
  m14 : XM P w K mg base cs 14 (["start", "length"] : List Str) gGoesRound
  n14 : mg "GoesRound" = some (.ref (cs 14).1)
  m15 : XM P w K mg base cs 15 (["name"] : List Str) gBadName
  n15 : mg "BadName" = some (.ref (cs 15).1)
  m16 : XM P w K mg base cs 16 (["name"] : List Str) gBadArity
  n16 : mg "BadArity" = some (.ref (cs 16).1)
  m17 : XM P w K mg base cs 17 (["name"] : List Str) gDerivedRow
  n17 : mg "DerivedRow" = some (.ref (cs 17).1)
  m18 : XM P w K mg base cs 18 (["name"] : List Str) gBadThing
  n18 : mg "BadThing" = some (.ref (cs 18).1)
  m19 : XM P w K mg base cs 19 (["name", "filled"] : List Str) gTwiceTold
  n19 : mg "TwiceTold" = some (.ref (cs 19).1)
  m20 : XM P w K mg base cs 20 (["name"] : List Str) gUnknownWorth
  n20 : mg "UnknownWorth" = some (.ref (cs 20).1)
  m21 : XM P w K mg base cs 21 (["name"] : List Str) gUnknownName
  n21 : mg "UnknownName" = some (.ref (cs 21).1)
  m22 : XM P w K mg base cs 22 (["name"] : List Str) gUnknownThing
  n22 : mg "UnknownThing" = some (.ref (cs 22).1)
  m23 : XM P w K mg base cs 23 (["name"] : List Str) gNotTold
  n23 : mg "NotTold" = some (.ref (cs 23).1)
  m24 : XM P w K mg base cs 24 (["fact"] : List Str) gUnknownFact
  n24 : mg "UnknownFact" = some (.ref (cs 24).1)
  m25 : XM P w K mg base cs 25 (["name", "filled"] : List Str) gNoRow
  n25 : mg "NoRow" = some (.ref (cs 25).1)
section
variable {P : Program} {w : World} {K : PySem.W.Frag} {mg : Str → Option Value} {base : Heap} {cs : Cs}
theorem ix0 {x y : D} : ixF (.lst [x, y]) (.int 0) = some x := by rfl
theorem ix1 {x y : D} : ixF (.lst [x, y]) (.int 1) = some y := by rfl
theorem tkE {N : List Str} {qual : Str} {scope : Scope} {f : Addr} {cd : Value} {A : Around} {outer : List Env} {s : Shared} {H : Hp} {E : XK} : Takes (cxOf (L2.CX P w) P w K mg base N qual scope f cd A outer s H E) (wE E) := takes_of rfl rfl rfl rfl
def gNumb : List D → R Unit D
  | [.int k] => if 0 ≤ k ∧ k ≤ 1000 then .ok (.lst [.exc 8 [.int k], .exc 9 [.int k], .exc 10 [.int k], .exc 11 [.int k, .int (k + 1)]]) () else .stuck
  | _ => .stuck
abbrev sNumb : Stmt := top 35
theorem scNumb : FnScope (["_law_number"] : List Str) (["_law_number"] : List Str) (defScope sNumb) := ⟨rfl, rfl, rfl, by decide +kernel, rfl, by decide +kernel, by decide +kernel⟩
theorem ok_Numb {f : Addr} {fd : FuncData} (Fn : Fun K "_law_numbered" "_law_numbered" sNumb f fd) (T : XAll P w K mg base cs) : FnOk P w K mg base (L2.CX P w) 3 f fd (["_law_number"] : List Str) (spP K cs 1 gNumb) := by
  refine fnP' (ps := (["_law_number"] : List Str)) Fn scNumb fun cdv A outer s H E hr ds hl ns => ?_
  match ds, hl with
  | [x0], _ =>
    refine ⟨_, _, pb_ret (pd_lst (pad_cons (pd_exM T.m8 T.n8 hr tkE (by rfl) (pad_cons (pd_var (i := 0) (pv 0) (fun _ => rfl)) pad_nil) rfl (by simp)) (pad_cons (pd_exM T.m9 T.n9 hr tkE (by rfl) (pad_cons (pd_var (i := 0) (pv 0) (fun _ => rfl)) pad_nil) rfl (by simp)) (pad_cons (pd_exM T.m10 T.n10 hr tkE (by rfl) (pad_cons (pd_var (i := 0) (pv 0) (fun _ => rfl)) pad_nil) rfl (by simp)) (pad_cons (pd_exM T.m11 T.n11 hr tkE (by rfl) (pad_cons (pd_var (i := 0) (pv 0) (fun _ => rfl)) (pad_cons (pd_bin op_addA d_add (pd_var (i := 0) (pv 0) (fun _ => rfl)) pd_int) pad_nil)) rfl (by simp)) pad_nil))))) (fun _ => trivial), ?_⟩
    unfold gNumb at ns
    split at ns
    · rename_i k he
      simp only [List.cons.injEq, and_true] at he
      subst he
      split at ns
      · rename_i h
        have e1 : msgOk (.int k) = true := by simp [msgOk]; omega
        have e2 : msgOk (.int (k + 1)) = true := by simp [msgOk]; omega
        simp [gNumb, h, gBadScale, gBadImages, gBadTable, gBadTree, gMixedScales, gNotSteady, gTooMany, gNothingDone, gBadRule, gBadRow, gNoRule, gNotDerived, gNotKept, gBadText, gGoesRound, gBadName, gBadArity, gDerivedRow, gBadThing, gTwiceTold, gUnknownWorth, gUnknownName, gUnknownThing, gNotTold, gUnknownFact, gNoRow, e1, e2, addF]
      · exact absurd rfl ns
    · exact absurd rfl ns
def gPlain : List D → R Unit D
  | [] => .ok (.lst [.exc 0 [], .exc 1 [], .exc 2 [], .exc 3 [], .exc 4 [], .exc 5 [], .exc 6 [], .exc 7 []]) ()
  | _ => .stuck
abbrev sPlain : Stmt := top 34
theorem scPlain : FnScope (["_law_rows"] : List Str) ([] : List Str) (defScope sPlain) := ⟨rfl, rfl, rfl, by decide +kernel, rfl, by decide +kernel, by decide +kernel⟩
theorem ok_Plain {f : Addr} {fd : FuncData} (Fn : Fun K "_law_plain" "_law_plain" sPlain f fd) (T : XAll P w K mg base cs) : FnOk P w K mg base (L2.CX P w) 3 f fd ([] : List Str) (spP K cs 0 gPlain) := by
  refine fnP' (ps := ([] : List Str)) Fn scPlain fun cdv A outer s H E hr ds hl ns => ?_
  match ds, hl with
  | [], _ =>
    refine ⟨_, _, pb_set (i := 0) (ps_set scPlain.nd rfl (.inl rfl)) (pd_lst (pad_cons (pd_exM0 T.m0 T.n0 hr tkE (by rfl)) (pad_cons (pd_exM0 T.m1 T.n1 hr tkE (by rfl)) (pad_cons (pd_exM0 T.m2 T.n2 hr tkE (by rfl)) (pad_cons (pd_exM0 T.m3 T.n3 hr tkE (by rfl)) (pad_cons (pd_exM0 T.m4 T.n4 hr tkE (by rfl)) (pad_cons (pd_exM0 T.m5 T.n5 hr tkE (by rfl)) pad_nil))))))) (fun _ => trivial) (by simp [jOf]) fun d0 => pb_ret (pd_bin op_addA d_add (pd_var (i := 0) (pv 0) (fun _ => rfl)) (pd_lst (pad_cons (pd_exM0 T.m6 T.n6 hr tkE (by rfl)) (pad_cons (pd_exM0 T.m7 T.n7 hr tkE (by rfl)) pad_nil)))) (fun _ => trivial), ?_⟩
    simp [gPlain, gBadScale, gBadImages, gBadTable, gBadTree, gMixedScales, gNotSteady, gTooMany, gNothingDone, gBadRule, gBadRow, gNoRule, gNotDerived, gNotKept, gBadText, gGoesRound, gBadName, gBadArity, gDerivedRow, gBadThing, gTwiceTold, gUnknownWorth, gUnknownName, gUnknownThing, gNotTold, gUnknownFact, gNoRow, addF]
def gNamed : List D → R Unit D
  | [.lst [.str a, .str b], .int k] => if 0 ≤ k ∧ k ≤ 1000 ∧ msgOk (.str a) = true ∧ msgOk (.str b) = true then
      .ok (.lst [.exc 12 [.str a, .tup [.str a, .str b]], .exc 13 [.int k], .exc 14 [.int k, .int (k + 2)], .exc 15 [.str b], .exc 16 [.str a], .exc 17 [.str b], .exc 18 [.str a], .exc 19 [.str b, .tup [.str a, .str b]]]) () else .stuck
  | _ => .stuck
abbrev sNamed : Stmt := top 36
theorem scNamed : FnScope (["_law_words", "_law_number", "_law_found"] : List Str) (["_law_words", "_law_number"] : List Str) (defScope sNamed) := ⟨rfl, rfl, rfl, by decide +kernel, rfl, by decide +kernel, by decide +kernel⟩
theorem ok_Named {f : Addr} {fd : FuncData} (Fn : Fun K "_law_named" "_law_named" sNamed f fd) (T : XAll P w K mg base cs) : FnOk P w K mg base (L2.CX P w) 3 f fd (["_law_words", "_law_number"] : List Str) (spP K cs 2 gNamed) := by
  refine fnP' (ps := (["_law_words", "_law_number"] : List Str)) Fn scNamed fun cdv A outer s H E hr ds hl ns => ?_
  match ds, hl with
  | [x0, x1], _ =>
    refine ⟨_, _, pb_set (i := 2) (ps_set scNamed.nd rfl (.inl rfl)) (pd_lst (pad_cons (pd_exM T.m12 T.n12 hr tkE (by rfl) (pad_cons (pd_ix (hu_of hr) (pd_var (i := 0) (pv 0) (fun _ => rfl)) pd_int (fun _ _ => rfl)) (pad_cons (pd_var (i := 0) (pv 0) (fun _ => rfl)) pad_nil)) rfl (by simp)) (pad_cons (pd_exM T.m13 T.n13 hr tkE (by rfl) (pad_cons (pd_var (i := 1) (pv 1) (fun _ => rfl)) pad_nil) rfl (by simp)) (pad_cons (pd_exM T.m14 T.n14 hr tkE (by rfl) (pad_cons (pd_var (i := 1) (pv 1) (fun _ => rfl)) (pad_cons (pd_bin op_addA d_add (pd_var (i := 1) (pv 1) (fun _ => rfl)) pd_int) pad_nil)) rfl (by simp)) (pad_cons (pd_exM T.m15 T.n15 hr tkE (by rfl) (pad_cons (pd_ix (hu_of hr) (pd_var (i := 0) (pv 0) (fun _ => rfl)) pd_int (fun _ _ => rfl)) pad_nil) rfl (by simp)) pad_nil))))) (fun _ => trivial) (by simp [jOf]) fun d2 => pb_set (i := 2) (ps_set scNamed.nd rfl (.inl rfl)) (pd_bin op_addA d_add (pd_var (i := 2) (pv 2) (fun _ => rfl)) (pd_lst (pad_cons (pd_exM T.m16 T.n16 hr tkE (by rfl) (pad_cons (pd_ix (hu_of hr) (pd_var (i := 0) (pv 0) (fun _ => rfl)) pd_int (fun _ _ => rfl)) pad_nil) rfl (by simp)) (pad_cons (pd_exM T.m17 T.n17 hr tkE (by rfl) (pad_cons (pd_ix (hu_of hr) (pd_var (i := 0) (pv 0) (fun _ => rfl)) pd_int (fun _ _ => rfl)) pad_nil) rfl (by simp)) (pad_cons (pd_exM T.m18 T.n18 hr tkE (by rfl) (pad_cons (pd_ix (hu_of hr) (pd_var (i := 0) (pv 0) (fun _ => rfl)) pd_int (fun _ _ => rfl)) pad_nil) rfl (by simp)) pad_nil))))) (fun _ => trivial) (by simp [jOf]) fun d2 => pb_ret (pd_bin op_addA d_add (pd_var (i := 2) (pv 2) (fun _ => rfl)) (pd_lst (pad_cons (pd_exM T.m19 T.n19 hr tkE (by rfl) (pad_cons (pd_ix (hu_of hr) (pd_var (i := 0) (pv 0) (fun _ => rfl)) pd_int (fun _ _ => rfl)) (pad_cons (pd_var (i := 0) (pv 0) (fun _ => rfl)) pad_nil)) rfl (by simp)) pad_nil))) (fun _ => trivial), ?_⟩
    unfold gNamed at ns
    split at ns
    · rename_i a b k he
      simp only [List.cons.injEq, and_true] at he
      obtain ⟨rfl, rfl⟩ := he
      split at ns
      · rename_i h
        obtain ⟨h1, h2, h3, h4⟩ := h
        have e1 : msgOk (.int k) = true := by simp [msgOk]; omega
        have e2 : msgOk (.int (k + 2)) = true := by simp [msgOk]; omega
        simp [gNamed, h1, h2, h3, h4, gBadScale, gBadImages, gBadTable, gBadTree, gMixedScales, gNotSteady, gTooMany, gNothingDone, gBadRule, gBadRow, gNoRule, gNotDerived, gNotKept, gBadText, gGoesRound, gBadName, gBadArity, gDerivedRow, gBadThing, gTwiceTold, gUnknownWorth, gUnknownName, gUnknownThing, gNotTold, gUnknownFact, gNoRow, e1, e2, addF, ix0, ix1, tupleF, seqOf]
      · exact absurd rfl ns
    · exact absurd rfl ns
def gLost : List D → R Unit D
  | [.lst [.str a, .str b]] => if msgOk (.str a) = true ∧ msgOk (.str b) = true then
      .ok (.lst [.exc 20 [.str a], .exc 21 [.str b], .exc 22 [.str a], .exc 23 [.str b], .exc 24 [.tup [.str a, .tup [.str b]]], .exc 25 [.str b, .tup [.str a, .str b]]]) () else .stuck
  | _ => .stuck
abbrev sLost : Stmt := top 37
theorem scLost : FnScope (["_law_words", "_law_found"] : List Str) (["_law_words"] : List Str) (defScope sLost) := ⟨rfl, rfl, rfl, by decide +kernel, rfl, by decide +kernel, by decide +kernel⟩
theorem ok_Lost {f : Addr} {fd : FuncData} (Fn : Fun K "_law_lost" "_law_lost" sLost f fd) (T : XAll P w K mg base cs) : FnOk P w K mg base (L2.CX P w) 3 f fd (["_law_words"] : List Str) (spP K cs 1 gLost) := by
  refine fnP' (ps := (["_law_words"] : List Str)) Fn scLost fun cdv A outer s H E hr ds hl ns => ?_
  match ds, hl with
  | [x0], _ =>
    refine ⟨_, _, pb_set (i := 1) (ps_set scLost.nd rfl (.inl rfl)) (pd_lst (pad_cons (pd_exM T.m20 T.n20 hr tkE (by rfl) (pad_cons (pd_ix (hu_of hr) (pd_var (i := 0) (pv 0) (fun _ => rfl)) pd_int (fun _ _ => rfl)) pad_nil) rfl (by simp)) (pad_cons (pd_exM T.m21 T.n21 hr tkE (by rfl) (pad_cons (pd_ix (hu_of hr) (pd_var (i := 0) (pv 0) (fun _ => rfl)) pd_int (fun _ _ => rfl)) pad_nil) rfl (by simp)) (pad_cons (pd_exM T.m22 T.n22 hr tkE (by rfl) (pad_cons (pd_ix (hu_of hr) (pd_var (i := 0) (pv 0) (fun _ => rfl)) pd_int (fun _ _ => rfl)) pad_nil) rfl (by simp)) (pad_cons (pd_exM T.m23 T.n23 hr tkE (by rfl) (pad_cons (pd_ix (hu_of hr) (pd_var (i := 0) (pv 0) (fun _ => rfl)) pd_int (fun _ _ => rfl)) pad_nil) rfl (by simp)) pad_nil))))) (fun _ => trivial) (by simp [jOf]) fun d1 => pb_ret (pd_bin op_addA d_add (pd_var (i := 1) (pv 1) (fun _ => rfl)) (pd_lst (pad_cons (pd_exM T.m24 T.n24 hr tkE (by rfl) (pad_cons (pd_tup (pad_cons (pd_ix (hu_of hr) (pd_var (i := 0) (pv 0) (fun _ => rfl)) pd_int (fun _ _ => rfl)) (pad_cons (pd_tup (pad_cons (pd_ix (hu_of hr) (pd_var (i := 0) (pv 0) (fun _ => rfl)) pd_int (fun _ _ => rfl)) pad_nil)) pad_nil))) pad_nil) rfl (by simp)) (pad_cons (pd_exM T.m25 T.n25 hr tkE (by rfl) (pad_cons (pd_ix (hu_of hr) (pd_var (i := 0) (pv 0) (fun _ => rfl)) pd_int (fun _ _ => rfl)) (pad_cons (pd_var (i := 0) (pv 0) (fun _ => rfl)) pad_nil)) rfl (by simp)) pad_nil)))) (fun _ => trivial), ?_⟩
    unfold gLost at ns
    split at ns
    · rename_i a b he
      simp only [List.cons.injEq, and_true] at he
      subst he
      split at ns
      · rename_i h
        obtain ⟨h3, h4⟩ := h
        simp [gLost, h3, h4, gBadScale, gBadImages, gBadTable, gBadTree, gMixedScales, gNotSteady, gTooMany, gNothingDone, gBadRule, gBadRow, gNoRule, gNotDerived, gNotKept, gBadText, gGoesRound, gBadName, gBadArity, gDerivedRow, gBadThing, gTwiceTold, gUnknownWorth, gUnknownName, gUnknownThing, gNotTold, gUnknownFact, gNoRow, addF, ix0, ix1, tupleF, seqOf]
      · exact absurd rfl ns
    · exact absurd rfl ns
end
end HD
set_option maxRecDepth 100000
set_option maxHeartbeats 4000000
namespace HD
open PySem PySem.Spec PyProof.Rows L2
section
variable {P : Program} {w : World} {K : PySem.W.Frag} {mg : Str → Option Value} {base : Heap} {cs : Cs}
abbrev sWord : Stmt := top 32
theorem scWord : FnScope ["_law_source_here"] ["_law_source_here"] (defScope sWord) := ⟨rfl, rfl, rfl, by decide +kernel, rfl, by decide +kernel, by decide +kernel⟩
def gWord (s : Src) (ds : List D) : R Src D := match ds with
  | [] => match pickF s 26 with
    | some (k, s1) => match ixF (.str "abcdefghijklmnopqrstuvwxyz") (.int k), pickF s1 1000000 with
      | some x, some (n, s2) => match strF (.int n) with
        | some y => opt (addF x y) s2
        | none => .stuck
      | _, _ => .stuck
    | none => .stuck
  | _ => .stuck
theorem ok_word {f fP : Addr} {fd fdP : FuncData} (Fn : Fun K "_law_word" "_law_word" sWord f fd) (FP : FnOk P w K mg base (L2.CX P w) 1 fP fdP ["_law_source_here", "_law_many"] (spS K cs 1 pickG)) (nP : mg "_law_pick" = some (.ref fP)) (kP : PySem.W.keepIn K (.ref fP) = true) (bP : Binds K fdP ["_law_source_here", "_law_many"] []) (mStr : mg "str" = none) :
    FnOk P w K mg base (L2.CX P w) 2 f fd ["_law_source_here"] (spS K cs 0 gWord) := by
  refine fnS' (ps := ([] : List Str)) Fn scWord fun cdv A outer s H E hr q ds hl => ?_
  match ds, hl with
  | [], _ =>
    refine ⟨_, _, pb_ret (pd_bin op_addA d_add
      (pd_ix (hu_of hr) pd_str (pd_callS (i := 0) (fun s => s) (fun _ z => z) (fun _ => q) FP hr (by rfl) nP kP bP tkE (pv 0) (fun _ => rfl) (fun _ _ => rfl) (pad_cons pd_int pad_nil)) (fun _ _ => rfl))
      (pd_cty1 call_str_int d_strI (by rfl) mStr (by decide +kernel) (pd_callS (i := 0) (fun s => s) (fun _ z => z) (fun _ => q) FP hr (by rfl) nP kP bP tkE (pv 0) (fun _ => rfl) (fun _ _ => rfl) (pad_cons (pd_bin op_pow d_pow pd_int pd_int) pad_nil)).pr)) (fun _ => rfl), fun s ns => ?_⟩
    have ep : powF (.int 10) (.int 6) = some (.int 1000000) := by simp [powF, intF]
    unfold gWord at ns ⊢
    cases h1 : pickF s 26 with
    | none => rw [h1] at ns; exact absurd rfl ns
    | some p =>
      obtain ⟨k, s1⟩ := p
      rw [h1] at ns
      dsimp only at ns ⊢
      cases h2 : ixF (.str "abcdefghijklmnopqrstuvwxyz") (.int k) with
      | none => rw [h2] at ns; exact absurd rfl ns
      | some x =>
        rw [h2] at ns
        cases h3 : pickF s1 1000000 with
        | none => rw [h3] at ns; exact absurd rfl ns
        | some r =>
          obtain ⟨n, s2⟩ := r
          rw [h3] at ns
          dsimp only at ns ⊢
          cases h4 : strF (.int n) with
          | none => rw [h4] at ns; exact absurd rfl ns
          | some y =>
            rw [h4] at ns
            dsimp only at ns ⊢
            cases h5 : addF x y with
            | none => rw [h5] at ns; exact absurd rfl ns
            | some z => simp [pickG, h1, h2, h3, h4, h5, ep]
abbrev sCls : Stmt := top 33
theorem scCls : FnScope ["_law_e", "_law_rows", "_law_k"] ["_law_e"] (defScope sCls) := ⟨rfl, rfl, rfl, by decide +kernel, rfl, by decide +kernel, by decide +kernel⟩
/-- the answer of isinstance(e, class j) -/
def isE (j : Nat) : D → Option Bool
  | .exc c _ => if c < 26 then some (decide (c = j)) else none
  | _ => none
/-- .. of another class than these: t tells -/
def isT (t : Nat → Bool) : D → Option Bool
  | .exc c _ => if c < 26 then some (t c) else none
  | _ => none
structure IsAll (K : PySem.W.Frag) (cs : Cs) : Prop where
  own : ∀ j, j < 26 → IsOk K cs [.ref (cs j).1] (isE j)
def gCls : List D → R Unit D
  | [.exc c _] => if c < 26 then .ok (.lst [.int (c : Int)]) () else .stuck
  | _ => .stuck
theorem ok_cls {f : Addr} {fd : FuncData} (Fn : Fun K "_law_classes" "_law_classes" sCls f fd) (T : XAll P w K mg base cs) (I : IsAll K cs) (mIsi : mg "isinstance" = none) (mLen : mg "len" = none) (mRg : mg "range" = none) : FnOk P w K mg base (L2.CX P w) 1 f fd ["_law_e"] (spP K cs 1 gCls) := by
  refine fnP' (ps := (["_law_e"] : List Str)) Fn scCls fun cdv A outer s H E hr ds hl ns => ?_
  match ds, hl with
  | [x0], _ =>
    refine ⟨_, _, pb_set (i := 1) (ps_set scCls.nd rfl (.inr rfl)) (pd_lst (pad_cons (pd_isi (I.own 0 (by decide)) (.own _) (by rfl) mIsi (pe_glob (by rfl) T.n0 rfl) (pd_var (i := 0) (pv 0) (fun _ => rfl)).pr) (pad_cons (pd_isi (I.own 1 (by decide)) (.own _) (by rfl) mIsi (pe_glob (by rfl) T.n1 rfl) (pd_var (i := 0) (pv 0) (fun _ => rfl)).pr) (pad_cons (pd_isi (I.own 2 (by decide)) (.own _) (by rfl) mIsi (pe_glob (by rfl) T.n2 rfl) (pd_var (i := 0) (pv 0) (fun _ => rfl)).pr) (pad_cons (pd_isi (I.own 3 (by decide)) (.own _) (by rfl) mIsi (pe_glob (by rfl) T.n3 rfl) (pd_var (i := 0) (pv 0) (fun _ => rfl)).pr) (pad_cons (pd_isi (I.own 4 (by decide)) (.own _) (by rfl) mIsi (pe_glob (by rfl) T.n4 rfl) (pd_var (i := 0) (pv 0) (fun _ => rfl)).pr) (pad_cons (pd_isi (I.own 5 (by decide)) (.own _) (by rfl) mIsi (pe_glob (by rfl) T.n5 rfl) (pd_var (i := 0) (pv 0) (fun _ => rfl)).pr) (pad_cons (pd_isi (I.own 6 (by decide)) (.own _) (by rfl) mIsi (pe_glob (by rfl) T.n6 rfl) (pd_var (i := 0) (pv 0) (fun _ => rfl)).pr) (pad_cons (pd_isi (I.own 7 (by decide)) (.own _) (by rfl) mIsi (pe_glob (by rfl) T.n7 rfl) (pd_var (i := 0) (pv 0) (fun _ => rfl)).pr) (pad_cons (pd_isi (I.own 8 (by decide)) (.own _) (by rfl) mIsi (pe_glob (by rfl) T.n8 rfl) (pd_var (i := 0) (pv 0) (fun _ => rfl)).pr) (pad_cons (pd_isi (I.own 9 (by decide)) (.own _) (by rfl) mIsi (pe_glob (by rfl) T.n9 rfl) (pd_var (i := 0) (pv 0) (fun _ => rfl)).pr) (pad_cons (pd_isi (I.own 10 (by decide)) (.own _) (by rfl) mIsi (pe_glob (by rfl) T.n10 rfl) (pd_var (i := 0) (pv 0) (fun _ => rfl)).pr) (pad_cons (pd_isi (I.own 11 (by decide)) (.own _) (by rfl) mIsi (pe_glob (by rfl) T.n11 rfl) (pd_var (i := 0) (pv 0) (fun _ => rfl)).pr) (pad_cons (pd_isi (I.own 12 (by decide)) (.own _) (by rfl) mIsi (pe_glob (by rfl) T.n12 rfl) (pd_var (i := 0) (pv 0) (fun _ => rfl)).pr) (pad_cons (pd_isi (I.own 13 (by decide)) (.own _) (by rfl) mIsi (pe_glob (by rfl) T.n13 rfl) (pd_var (i := 0) (pv 0) (fun _ => rfl)).pr) (pad_cons (pd_isi (I.own 14 (by decide)) (.own _) (by rfl) mIsi (pe_glob (by rfl) T.n14 rfl) (pd_var (i := 0) (pv 0) (fun _ => rfl)).pr) (pad_cons (pd_isi (I.own 15 (by decide)) (.own _) (by rfl) mIsi (pe_glob (by rfl) T.n15 rfl) (pd_var (i := 0) (pv 0) (fun _ => rfl)).pr) (pad_cons (pd_isi (I.own 16 (by decide)) (.own _) (by rfl) mIsi (pe_glob (by rfl) T.n16 rfl) (pd_var (i := 0) (pv 0) (fun _ => rfl)).pr) (pad_cons (pd_isi (I.own 17 (by decide)) (.own _) (by rfl) mIsi (pe_glob (by rfl) T.n17 rfl) (pd_var (i := 0) (pv 0) (fun _ => rfl)).pr) (pad_cons (pd_isi (I.own 18 (by decide)) (.own _) (by rfl) mIsi (pe_glob (by rfl) T.n18 rfl) (pd_var (i := 0) (pv 0) (fun _ => rfl)).pr) (pad_cons (pd_isi (I.own 19 (by decide)) (.own _) (by rfl) mIsi (pe_glob (by rfl) T.n19 rfl) (pd_var (i := 0) (pv 0) (fun _ => rfl)).pr) (pad_cons (pd_isi (I.own 20 (by decide)) (.own _) (by rfl) mIsi (pe_glob (by rfl) T.n20 rfl) (pd_var (i := 0) (pv 0) (fun _ => rfl)).pr) (pad_cons (pd_isi (I.own 21 (by decide)) (.own _) (by rfl) mIsi (pe_glob (by rfl) T.n21 rfl) (pd_var (i := 0) (pv 0) (fun _ => rfl)).pr) (pad_cons (pd_isi (I.own 22 (by decide)) (.own _) (by rfl) mIsi (pe_glob (by rfl) T.n22 rfl) (pd_var (i := 0) (pv 0) (fun _ => rfl)).pr) (pad_cons (pd_isi (I.own 23 (by decide)) (.own _) (by rfl) mIsi (pe_glob (by rfl) T.n23 rfl) (pd_var (i := 0) (pv 0) (fun _ => rfl)).pr) (pad_cons (pd_isi (I.own 24 (by decide)) (.own _) (by rfl) mIsi (pe_glob (by rfl) T.n24 rfl) (pd_var (i := 0) (pv 0) (fun _ => rfl)).pr) (pad_cons (pd_isi (I.own 25 (by decide)) (.own _) (by rfl) mIsi (pe_glob (by rfl) T.n25 rfl) (pd_var (i := 0) (pv 0) (fun _ => rfl)).pr) pad_nil))))))))))))))))))))))))))) (fun _ => trivial) (by simp [jOf]) fun rows => pb_ret (pd_lcB (own := [("_law_k", 2)]) (D.non) rfl scCls.nd (pid_range1 (by rfl) mRg (pad_cons (pd_cb1 call_lenA d_len (by rfl) mLen PySem.boot_len (pd_var (i := 1) (pv 1) (fun _ => rfl)).pr) pad_nil)) (blkOk_by rfl)
      (fun s H C cl fp => pgd_name (i := 2) (pg_name (i := 2) scCls.nd rfl (.inl rfl))) (by simp) (fun _ _ => Sd.refl _) (fun _ => by simp [noOwn])
      (fun y s H C cl fp => ptsd_one (ptd_val (pd_ix (hu_of hr) (pd_var (i := 1) (pv 1) (fun _ => rfl)) (pd_var (i := 2) (pv 2) (fun _ => rfl)) (fun _ _ => rfl))))
      (fun y s H C cl fp => pd_var (i := 2) (pv 2) (fun _ => rfl))) (fun _ => trivial), ?_⟩
    unfold gCls at ns
    split at ns
    · rename_i c fs he
      simp only [List.cons.injEq, and_true] at he
      subst he
      split at ns
      · rename_i h
        clear ns
        exact match c, h with
        | 0, _ => rfl
        | 1, _ => rfl
        | 2, _ => rfl
        | 3, _ => rfl
        | 4, _ => rfl
        | 5, _ => rfl
        | 6, _ => rfl
        | 7, _ => rfl
        | 8, _ => rfl
        | 9, _ => rfl
        | 10, _ => rfl
        | 11, _ => rfl
        | 12, _ => rfl
        | 13, _ => rfl
        | 14, _ => rfl
        | 15, _ => rfl
        | 16, _ => rfl
        | 17, _ => rfl
        | 18, _ => rfl
        | 19, _ => rfl
        | 20, _ => rfl
        | 21, _ => rfl
        | 22, _ => rfl
        | 23, _ => rfl
        | 24, _ => rfl
        | 25, _ => rfl
        | n + 26, h => absurd h (by omega)
      · exact absurd rfl ns
    · exact absurd rfl ns
end
end HD
set_option maxRecDepth 100000
set_option maxHeartbeats 8000000
namespace HD
open PySem PySem.Spec PyProof.Rows L2
theorem boot_lst : bootBuiltins "list" = some (.type "list") := by decide +kernel
structure LS where
  q : Addr
  z : Src
  ws : List D
theorem owx {q : Addr} {z : Src} {ws : List D} {r : List SV} (h : ∀ o, SV.own o ∉ r) : ∀ j o, j ≠ 2 → (SV.unk :: .own (.src q z) :: .own (.lst ws) :: r)[j]? = some (.own o) → ∃ q z, o = .src q z
  | 0, _, _, e => by simp at e
  | 1, _, _, e => by simp at e; exact ⟨_, _, e.symm⟩
  | 2, _, n, _ => absurd rfl n
  | j + 3, o, _, e => absurd (List.mem_of_getElem? (show r[j]? = some (.own o) by simpa using e)) (h o)
abbrev sLaw : Stmt := top 38
theorem scLaw : FnScope (["_law_script", "_law_source_here", "_law_words", "_law_number", "_law_kept", "_law_told", "_law_named_here", "_law_lost_here", "_law_every", "_law_e", "_law_k"] : List Str) ["_law_script"] (defScope sLaw) := ⟨rfl, rfl, rfl, by decide +kernel, rfl, by decide +kernel, by decide +kernel⟩
def atNumber : Nat → Option Nat
  | 8 => some 0 | 9 => some 0 | 10 => some 0 | 11 => some 0 | _ => none
def atPlace : Nat → Option Nat
  | 11 => some 1 | 13 => some 0 | _ => none
def atPart : Nat → Option Nat
  | 12 => some 0 | _ => none
def atMembers : Nat → Option Nat
  | 12 => some 1 | _ => none
def atStart : Nat → Option Nat
  | 14 => some 0 | _ => none
def atLength : Nat → Option Nat
  | 14 => some 1 | _ => none
def atName : Nat → Option Nat
  | 15 => some 0 | 16 => some 0 | 17 => some 0 | 18 => some 0 | 19 => some 0 | 20 => some 0 | 21 => some 0 | 22 => some 0 | 23 => some 0 | 25 => some 0 | _ => none
def atFilled : Nat → Option Nat
  | 19 => some 1 | 25 => some 1 | _ => none
def atFact : Nat → Option Nat
  | 24 => some 0 | _ => none
section
variable {P : Program} {w : World} {K : PySem.W.Frag} {mg : Str → Option Value} {base : Heap} {cs : Cs}
/-! ### the mirrors' words, at data -/
theorem e_cap {S : Type} {l : List D} {s : S} (h : l.length ≤ 1000000) : capR l s = .ok l s := if_pos h
theorem e_lend {S : Type} {d : D} {s : S} {get : S → List D} (h : ((get s).all isFlat && nl (get s).length d) = true) : lendR (.ok d s) get = .ok d s := if_pos h
theorem e_lendT {S : Type} {b : Bool} {s : S} {get : S → List D} (h : ((get s).all isFlat) = true) : lendT (.ok b s) get = .ok b s := if_pos h
theorem e_seq {ds : List D} : seqOf (.lst ds) = some ds := rfl
theorem e_addi {i j : Int} : addF (.int i) (.int j) = some (.int (i + j)) := rfl
theorem e_addl {a b : List D} (h : a.length + b.length ≤ 1000000) : addF (.lst a) (.lst b) = some (.lst (a ++ b)) := if_pos h
theorem e_items {ds : List D} : itemsF (.lst ds) = some ds := rfl
theorem e_bool {S : Type} {b : Bool} {s : S} : boolR (.bl b) s = .ok b s := rfl
theorem e_rg : rangeF [.int 26] = some [.int 0, .int 1, .int 2, .int 3, .int 4, .int 5, .int 6, .int 7, .int 8, .int 9, .int 10, .int 11, .int 12, .int 13, .int 14, .int 15, .int 16, .int 17, .int 18, .int 19, .int 20, .int 21, .int 22, .int 23, .int 24, .int 25] := rfl
theorem e_cls {c : Nat} {fs : List D} (h : c < 26) : gCls [.exc c fs] = .ok (.lst [.int (c : Int)]) () := if_pos h
theorem e_isi {c : Nat} {fs : List D} {t : Nat → Bool} (h : c < 26) : isiF (isT t) (.exc c fs) = some (.bl (t c)) := by
  show (if c < 26 then some (t c) else none).map D.bl = _
  rw [if_pos h]; rfl
theorem e_xf {at_ : Nat → Option Nat} {c k : Nat} {ds : List D} (h : at_ c = some k) : xfldF at_ (.exc c ds) = ds[k]? := by
  show (at_ c).bind (fun k => ds[k]?) = _
  rw [h]; rfl
theorem e_ix {ds : List D} (k : Nat) : ixF (.lst ds) (.int (k : Int)) = ds[k]? := by
  show L2.atI ds (k : Int) = _
  by_cases h : k < ds.length
  · exact atI_nat h
  · rw [List.getElem?_eq_none (by omega)]
    unfold L2.atI L2.ixN
    rw [if_pos (by omega)]
    simp
    omega
theorem e_ix0 {ds : List D} : ixF (.lst ds) (.int 0) = ds[0]? := e_ix 0
theorem e_ix1 {ds : List D} : ixF (.lst ds) (.int 1) = ds[1]? := e_ix 1
theorem e_ix2 {ds : List D} : ixF (.lst ds) (.int 2) = ds[2]? := e_ix 2
theorem e_ix3 {ds : List D} : ixF (.lst ds) (.int 3) = ds[3]? := e_ix 3
theorem e_ix4 {ds : List D} : ixF (.lst ds) (.int 4) = ds[4]? := e_ix 4
theorem e_ix5 {ds : List D} : ixF (.lst ds) (.int 5) = ds[5]? := e_ix 5
theorem e_ix7 {ds : List D} : ixF (.lst ds) (.int 7) = ds[7]? := e_ix 7
theorem e_sl {ol oh : Option Int} {ds : List D} : slF ol oh (.lst ds) = some (cutG ds ol oh) := rfl
theorem e_cut8 {a b c d e f g h : D} : cutG [a, b, c, d, e, f, g, h] (some 3) none = [d, e, f, g, h] := rfl
theorem e_cut6 {a b c d e f : D} : cutG [a, b, c, d, e, f] none (some 4) = [a, b, c, d] := rfl
theorem e_tup {ds : List D} : tupleF (.lst ds) = some (.tup ds) := rfl
theorem e_mul {x : D} : mulF (.lst [x]) (.int 4) = some (.lst [x, x, x, x]) := rfl
theorem e_g0 {a : D} {l : List D} : (a :: l)[0]? = some a := rfl
theorem e_gs {a : D} {l : List D} {n : Nat} : (a :: l)[n + 1]? = l[n]? := by simp
theorem bstep {S α β : Type} {r : R S α} {f : α → S → R S β} {d : α} {s1 : S} {v : R S β} (h : r = .ok d s1) (h2 : f d s1 = v) : r.bind f = v := by rw [h]; exact h2
theorem lcM_map {S : Type} {mi : S → R S (List D)} {me : D → S → R S D} (h : D → D) {s : S} {ds : List D} (h1 : mi s = .ok ds s) (hl : ds.length ≤ 1000000) (h2 : ∀ x ∈ ds, me x s = .ok (h x) s) : lcM mi some (fun _ s => .ok true s) me s = .ok (.lst (ds.map h)) s := by
  show (mi s).bind _ = _
  rw [h1, R.bind_ok, lcA_map h s ds [] _ (by simpa using hl)]
  · rfl
  · intro x hx
    simp only [patR_some, R.bind_ok, if_true, h2 x hx]
def dTold (k : Int) : D := .lst [.exc 8 [.int k], .exc 9 [.int k], .exc 10 [.int k], .exc 11 [.int k, .int (k + 1)]]
def dNamed (a b : Str) (k : Int) : D := .lst [.exc 12 [.str a, .tup [.str a, .str b]], .exc 13 [.int k], .exc 14 [.int k, .int (k + 2)], .exc 15 [.str b], .exc 16 [.str a], .exc 17 [.str b], .exc 18 [.str a], .exc 19 [.str b, .tup [.str a, .str b]]]
def dLost (a b : Str) : D := .lst [.exc 20 [.str a], .exc 21 [.str b], .exc 22 [.str a], .exc 23 [.str b], .exc 24 [.tup [.str a, .tup [.str b]]], .exc 25 [.str b, .tup [.str a, .str b]]]
def dEveryL (a b : Str) (k : Int) : List D := [.exc 0 [], .exc 1 [], .exc 2 [], .exc 3 [], .exc 4 [], .exc 5 [], .exc 6 [], .exc 7 [], .exc 8 [.int k], .exc 9 [.int k], .exc 10 [.int k], .exc 11 [.int k, .int (k + 1)],
  .exc 12 [.str a, .tup [.str a, .str b]], .exc 13 [.int k], .exc 14 [.int k, .int (k + 2)], .exc 15 [.str b], .exc 16 [.str a], .exc 17 [.str b], .exc 18 [.str a], .exc 19 [.str b, .tup [.str a, .str b]],
  .exc 20 [.str a], .exc 21 [.str b], .exc 22 [.str a], .exc 23 [.str b], .exc 24 [.tup [.str a, .tup [.str b]]], .exc 25 [.str b, .tup [.str a, .str b]]]
def dEvery (a b : Str) (k : Int) : D := .lst (dEveryL a b k)
def clsOf : D → D
  | .exc c _ => .lst [.int (c : Int)]
  | d => d
def rg26 : List D := [.int 0, .int 1, .int 2, .int 3, .int 4, .int 5, .int 6, .int 7, .int 8, .int 9, .int 10, .int 11, .int 12, .int 13, .int 14, .int 15, .int 16, .int 17, .int 18, .int 19, .int 20, .int 21, .int 22, .int 23, .int 24, .int 25]
theorem dEvery_all {S : Type} (a b : Str) (k : Int) (s : S) : ∀ x ∈ dEveryL a b k, ((R.ok x s).bind fun x s1 => (gCls [x]).lift s1) = .ok (clsOf x) s := by
  have key : ∀ (c : Nat) (fs : List D), c < 26 → ((R.ok (D.exc c fs) s).bind fun x s1 => (gCls [x]).lift s1) = .ok (clsOf (.exc c fs)) s := fun c fs h => by
    rw [R.bind_ok, e_cls h]; rfl
  intro x hx
  simp only [dEveryL, List.mem_cons, List.not_mem_nil, or_false] at hx
  rcases hx with rfl | rfl | rfl | rfl | rfl | rfl | rfl | rfl | rfl | rfl | rfl | rfl | rfl | rfl | rfl | rfl | rfl | rfl | rfl | rfl | rfl | rfl | rfl | rfl | rfl | rfl <;> exact key _ _ (by decide)
theorem dEvery_cls (a b : Str) (k : Int) : (dEveryL a b k).map clsOf = rg26.map fun d => .lst [d] := rfl
theorem loop_skip {S T Rr : Type} {t : T} {s : S} {body : D → T → S → (T → S → Rr) → (T → S → Rr) → Rr} {k : T → S → Rr} : ∀ {ds : List D}, (∀ x ∈ ds, ∀ nx bk, body x t s nx bk = nx t s) → loopM ds t s body k = k t s
  | [], _ => rfl
  | x :: xs, h => by
    rw [loopM, h x (by simp)]
    exact loop_skip fun y hy => h y (by simp [hy])
def dFirst (a b : Str) (k : Int) : List D := [.exc 0 [], .exc 1 [], .exc 2 [], .exc 3 [], .exc 4 [], .exc 5 [], .exc 6 [], .exc 7 [], .exc 8 [.int k], .exc 9 [.int k], .exc 10 [.int k], .exc 11 [.int k, .int (k + 1)],
  .exc 12 [.str a, .tup [.str a, .str b]], .exc 13 [.int k], .exc 14 [.int k, .int (k + 2)], .exc 15 [.str b], .exc 16 [.str a], .exc 17 [.str b], .exc 18 [.str a], .exc 19 [.str b, .tup [.str a, .str b]]]
def dLostL (a b : Str) : List D := [.exc 20 [.str a], .exc 21 [.str b], .exc 22 [.str a], .exc 23 [.str b], .exc 24 [.tup [.str a, .tup [.str b]]], .exc 25 [.str b, .tup [.str a, .str b]]]
theorem ne_step {S : Type} {rA : R S D} {B : S → R S D} {x : D} {s : S} (h1 : rA = .ok x s) (h2 : B s = .ok x s) (c : (toPy x).canLay0 = true) (d : (toPy x).depth ≤ 64) : ((rA.bind fun x s1 => (B s1).bind fun y s2 => opt (eqF true x y) s2).bind fun d s1 => boolR d s1) = .ok false s := by
  rw [h1, R.bind_ok, h2, R.bind_ok, eqF_refl c d]; rfl
theorem eq_step {S : Type} {rA : R S D} {B : S → R S D} {x : D} {s : S} (h1 : rA = .ok x s) (h2 : B s = .ok x s) (c : (toPy x).canLay0 = true) (d : (toPy x).depth ≤ 64) : (rA.bind fun x s1 => (B s1).bind fun y s2 => opt (eqF false x y) s2) = .ok (.bl true) s := by
  rw [h1, R.bind_ok, h2, R.bind_ok, eqF_refl c d]; rfl
theorem word_ok (z : Src) : ∃ (a : Str) (z' : Src), gWord z [] = .ok (.str a) z' ∧ (∀ c ∈ a.cps.toList, c < 0x110000) ∧ a.length ≤ 1000 := by
  obtain ⟨k, s1, h1⟩ := pick_some z (m := 26) (by decide)
  have r1 := pick_range h1
  obtain ⟨n, s2, h2⟩ := pick_some s1 (m := 1000000) (by decide)
  have r2 := pick_range h2
  obtain ⟨a, e1, l1, c1⟩ := letter_ok (x := "abcdefghijklmnopqrstuvwxyz") (k := k) (n := 26) (by decide +kernel) (by decide) (by omega) (by omega)
  obtain ⟨e2, l2⟩ := digits_ok (n := n) (by omega) (by omega)
  refine ⟨a ++ Str.ofString (toString n), s2, ?_, cps_app c1 (cps_of _), ?_⟩
  · unfold gWord
    simp only [h1, e1, h2, e2]
    have : a.length + (Str.ofString (toString n)).length ≤ 1000000 := by omega
    show opt (if a.length + (Str.ofString (toString n)).length ≤ 1000000 then some (D.str (a ++ Str.ofString (toString n))) else none) s2 = _
    rw [if_pos this]; rfl
  · have : (a ++ Str.ofString (toString n)).length = a.length + (Str.ofString (toString n)).length := by first | exact Str.length_append .. | simp
    rw [this]; omega
def spLaw (K : PySem.W.Frag) : Sp := fun vs H Q _ => ∃ (a : Addr) (ns : List Int), vs = [.ref a] ∧ SqL K H a (ns.map V.int) ∧ ns.length ≤ 1000 ∧ ∀ H', Q (.bl true) H'
theorem ok_law {f fS fP fW fCl fPl fNu fNa fLo S0 N0 : Addr} {fd fdS fdP fdW fdCl fdPl fdNu fdNa fdLo : FuncData} (Fn : Fun K "law" "law" sLaw f fd) (T : XAll P w K mg base cs)
    (FS : FnOk P w K mg base (L2.CX P w) 1 fS fdS ["_law_script"] (spSrc0 K)) (nS : mg "_law_source" = some (.ref fS)) (kS : PySem.W.keepIn K (.ref fS) = true) (bS : Binds K fdS ["_law_script"] [])
    (FP : FnOk P w K mg base (L2.CX P w) 1 fP fdP ["_law_source_here", "_law_many"] (spS K cs 1 pickG)) (nP : mg "_law_pick" = some (.ref fP)) (kP : PySem.W.keepIn K (.ref fP) = true) (bP : Binds K fdP ["_law_source_here", "_law_many"] [])
    (FW : FnOk P w K mg base (L2.CX P w) 2 fW fdW ["_law_source_here"] (spS K cs 0 gWord)) (nW : mg "_law_word" = some (.ref fW)) (kW : PySem.W.keepIn K (.ref fW) = true) (bW : Binds K fdW ["_law_source_here"] [])
    (Fcl : FnOk P w K mg base (L2.CX P w) 1 fCl fdCl ["_law_e"] (spP K cs 1 gCls)) (ncl : mg "_law_classes" = some (.ref fCl)) (kcl : PySem.W.keepIn K (.ref fCl) = true) (bcl : Binds K fdCl ["_law_e"] [])
    (Fpl : FnOk P w K mg base (L2.CX P w) 3 fPl fdPl [] (spP K cs 0 gPlain)) (npl : mg "_law_plain" = some (.ref fPl)) (kpl : PySem.W.keepIn K (.ref fPl) = true) (bpl : Binds K fdPl [] [])
    (Fnu : FnOk P w K mg base (L2.CX P w) 3 fNu fdNu ["_law_number"] (spP K cs 1 gNumb)) (nnu : mg "_law_numbered" = some (.ref fNu)) (knu : PySem.W.keepIn K (.ref fNu) = true) (bnu : Binds K fdNu ["_law_number"] [])
    (Fna : FnOk P w K mg base (L2.CX P w) 3 fNa fdNa ["_law_words", "_law_number"] (spP K cs 2 gNamed)) (nna : mg "_law_named" = some (.ref fNa)) (kna : PySem.W.keepIn K (.ref fNa) = true) (bna : Binds K fdNa ["_law_words", "_law_number"] [])
    (Flo : FnOk P w K mg base (L2.CX P w) 3 fLo fdLo ["_law_words"] (spP K cs 1 gLost)) (nlo : mg "_law_lost" = some (.ref fLo)) (klo : PySem.W.keepIn K (.ref fLo) = true) (blo : Binds K fdLo ["_law_words"] [])
    (mRg : mg "range" = none) (mTup : mg "tuple" = none) (mList : mg "list" = none) (mIsi : mg "isinstance" = none) (mVE : mg "ValueError" = none) (mLE : mg "LookupError" = none) (mKE : mg "KeyError" = none) (mIE : mg "IndexError" = none)
    (mSE : mg "SettlescaleError" = some (.ref S0)) (mNM : mg "NameMissing" = some (.ref N0))
    (iVE : IsOk K cs [.type "ValueError"] (isT fun c => decide (c < 20))) (iSE : IsOk K cs [.ref S0] (isT fun c => decide (c < 20))) (iLE : IsOk K cs [.type "LookupError"] (isT fun c => decide (20 ≤ c))) (iNM : IsOk K cs [.ref N0] (isT fun c => decide (20 ≤ c)))
    (iKE : IsOk K cs [.type "KeyError"] (isT fun _ => false)) (iIE : IsOk K cs [.type "IndexError"] (isT fun _ => false))
    (TatNumber : XAt K cs "number" atNumber) (TatPlace : XAt K cs "place" atPlace) (TatPart : XAt K cs "part" atPart) (TatMembers : XAt K cs "members" atMembers) (TatStart : XAt K cs "start" atStart) (TatLength : XAt K cs "length" atLength) (TatName : XAt K cs "name" atName) (TatFilled : XAt K cs "filled" atFilled) (TatFact : XAt K cs "fact" atFact) :
    FnOk P w K mg base (L2.CX P w) 4 f fd ["_law_script"] (spLaw K) := by
  refine Fn.okX scLaw (fun vs H Q E h => by obtain ⟨a, ns, rfl, _⟩ := h; rfl) fun cdv A outer s H vs Q E hr h => ?_
  obtain ⟨a, ns, rfl, hS, hn, fin⟩ := h
  have pb : ∃ (t : TS) (m : BM LS Unit Empty), PB (cxOf (L2.CX P w) P w K mg base (["_law_script", "_law_source_here", "_law_words", "_law_number", "_law_kept", "_law_told", "_law_named_here", "_law_lost_here", "_law_every", "_law_e", "_law_k"] : List Str) "law" (defScope sLaw) f cdv A outer s H E) cs (wE E) none (fun s : LS => [SV.unk, .own (.src s.q s.z), .unk, .unk, .unk, .unk, .unk, .unk, .unk, .unk, .unk]) ((defBody sLaw).drop 1) t (fun _ _ => []) (fun t => nomatch t) m ∧
      ∀ s, ∃ s', m D s (fun d s => .ok d s) (fun _ s => .ok .non s) (fun t => nomatch t) (fun t => nomatch t) = .ok (.bl true) s' := by
    refine ⟨_, _, pb_own (i := 2) (fun s l => { s with ws := l }) (fun s : LS => [SV.unk, .own (.src s.q s.z), .own (.lst s.ws), .unk, .unk, .unk, .unk, .unk, .unk, .unk, .unk]) (ps_set scLaw.nd rfl (.inl rfl)) (pf_lst (pad_cons (pd_callS (i := 1) (fun s : LS => s.z) (fun s z => { s with z := z }) (fun s => s.q) FW (hr.mono (by decide)) (by rfl) nW kW bW tkE (pv 1) (fun _ => rfl) (fun _ _ => rfl) pad_nil) (pad_cons (pd_callS (i := 1) (fun s : LS => s.z) (fun s z => { s with z := z }) (fun s => s.q) FW (hr.mono (by decide)) (by rfl) nW kW bW tkE (pv 1) (fun _ => rfl) (fun _ _ => rfl) pad_nil) pad_nil))) (fun _ => trivial) (by simp [jOf]) (fun _ _ => rfl)
    (pb_set (i := 3) (ps_set scLaw.nd rfl (.inl rfl)) (pd_callS (i := 1) (fun s : LS => s.z) (fun s z => { s with z := z }) (fun s => s.q) FP (hr.mono (by decide)) (by rfl) nP kP bP tkE (pv 1) (fun _ => rfl) (fun _ _ => rfl) (pad_cons pd_int pad_nil)) (fun _ => trivial) (by simp [jOf]) fun d3 =>
    pb_set (i := 4) (ps_set scLaw.nd rfl (.inl rfl)) (PF.pd (pf_list (by rfl) mList boot_lst (pr_lst (i := 2) (g := fun s : LS => s.ws) (pv 2) (fun _ => rfl)))) (fun _ => trivial) (by simp [jOf]) fun d4 =>
    pb_set (i := 5) (ps_set scLaw.nd rfl (.inl rfl)) (pd_callB Fnu nnu knu bnu rfl (pad_cons (pd_var (i := 3) (pv 3) (fun _ => rfl)) pad_nil) hr (by rfl) tkE) (fun _ => trivial) (by simp [jOf]) fun d5 =>
    pb_set (i := 6) (ps_set scLaw.nd rfl (.inl rfl)) (pd_lend (i := 2) (fun s : LS => s.ws) (fun _ => rfl) (fun _ _ => by repeat (first | exact Sd.nil | apply Sd.eq | apply Sd.own)) (fun s => owx (q := s.q) (z := s.z) (ws := s.ws) (by simp)) (pd_callB Fna nna kna bna rfl (pad_cons (pd_varS (i := 2) (g := fun s => .lst s.ws) (pv 2) (fun _ => rfl)) (pad_cons (pd_var (i := 3) (pv 3) (fun _ => rfl)) pad_nil)) hr (by rfl) tkE)) (fun _ => trivial) (by simp [jOf]) fun d6 =>
    pb_set (i := 7) (ps_set scLaw.nd rfl (.inl rfl)) (pd_lend (i := 2) (fun s : LS => s.ws) (fun _ => rfl) (fun _ _ => by repeat (first | exact Sd.nil | apply Sd.eq | apply Sd.own)) (fun s => owx (q := s.q) (z := s.z) (ws := s.ws) (by simp)) (pd_callB Flo nlo klo blo rfl (pad_cons (pd_varS (i := 2) (g := fun s => .lst s.ws) (pv 2) (fun _ => rfl)) pad_nil) hr (by rfl) tkE)) (fun _ => trivial) (by simp [jOf]) fun d7 =>
    pb_set (i := 8) (ps_set scLaw.nd rfl (.inl rfl)) (pd_bin op_addA d_add (pd_bin op_addA d_add (pd_bin op_addA d_add (pd_call0 Fpl hr (by rfl) npl kpl bpl tkE) (pd_var (i := 5) (pv 5) (fun _ => rfl))) (pd_var (i := 6) (pv 6) (fun _ => rfl))) (pd_var (i := 7) (pv 7) (fun _ => rfl))) (fun _ => trivial) (by simp [jOf]) fun d8 =>
    pb_ifx (PWD.ptd (pwd_or (ptd_lend (i := 2) (fun s : LS => s.ws) (fun _ => rfl) (fun _ _ => by repeat (first | exact Sd.nil | apply Sd.eq | apply Sd.own)) (fun s => owx (q := s.q) (z := s.z) (ws := s.ws) (by simp)) (ptd_cmp (op_neD hr.units) d_ne (pd_varS (i := 2) (g := fun s => .lst s.ws) (pv 2) (fun _ => rfl)) (PDr.pr (pd_var (i := 4) (pv 4) (fun _ => rfl))) (nomark _))) (pwd_or1 (ptd_cmp (op_neD hr.units) d_ne (pd_lcB (own := [("_law_e", 9)]) (D.non) rfl scLaw.nd (pid_any (pd_var (i := 8) (pv 8) (fun _ => rfl))) (blkOk_by rfl) (fun s H C cl fp => pgd_name (i := 9) (pg_name (i := 9) scLaw.nd rfl (.inl rfl))) (by simp) (fun _ _ => by repeat (first | exact Sd.nil | apply Sd.eq | apply Sd.own)) (fun _ => by simp [noOwn]) (fun y s H C cl fp => ptsd_nil) (fun y s H C cl fp => by exact (pd_callB Fcl ncl kcl bcl rfl (pad_cons (pd_var (i := 9) (pv 9) (fun _ => rfl)) pad_nil) (hr.mono (by decide)) (by rfl) takesF))) (PDr.pr (pd_lcB (own := [("_law_k", 10)]) (D.non) rfl scLaw.nd (pid_range1 (by rfl) mRg (pad_cons pd_int pad_nil)) (blkOk_by rfl) (fun s H C cl fp => pgd_name (i := 10) (pg_name (i := 10) scLaw.nd rfl (.inl rfl))) (by simp) (fun _ _ => by repeat (first | exact Sd.nil | apply Sd.eq | apply Sd.own)) (fun _ => by simp [noOwn]) (fun y s H C cl fp => ptsd_nil) (fun y s H C cl fp => by exact (pd_lst (pad_cons (pd_var (i := 10) (pv 10) (fun _ => rfl)) pad_nil))))) (nomark _))))) (fun _ => trivial) (pb_ret pd_bl (fun _ => trivial))
    (pb_append (i := 2) (fun s : LS => s.ws) (fun s l => { s with ws := l }) (pv 2) pd_str (fun _ => trivial) (fun _ _ => trivial) (fun _ => rfl) (fun _ _ => rfl)
    (pb_for (T := Unit) (fun (_ : Unit) (s : LS) => [SV.unk, .own (.src s.q s.z), .own (.lst s.ws), .dat d3, .dat d4, .dat d5, .dat d6, .dat d7, .dat d8, .unk, .unk]) () (D.non) (fun h1 h2 h3 => ps_for (passes_of rfl) rfl h1 h2 h3) (pid_any (pd_bin op_addA d_add (pd_bin op_addA d_add (pd_call0 Fpl hr (by rfl) npl kpl bpl tkE) (pd_var (i := 5) (pv 5) (fun _ => rfl))) (pd_var (i := 6) (pv 6) (fun _ => rfl)))) (pgd_name (i := 9) (pg_name (i := 9) scLaw.nd rfl (.inl rfl))) (fun _ => trivial) (fun s => by repeat (first | exact Wk.nil | apply Wk.eq | apply Wk.unk)) (by simp [jOf])
    (fun y _ => pb_ifx (PWD.ptd (pwd_or (ptd_not (ptd_val (pd_isi iVE (.ty _) (by rfl) mIsi (pe_bltn (by rfl) mVE (by decide +kernel) rfl) (PDr.pr (pd_var (i := 9) (pv 9) (fun _ => rfl)))))) (pwd_or (ptd_not (ptd_val (pd_isi iSE (.own _) (by rfl) mIsi (pe_glob (by rfl) mSE rfl) (PDr.pr (pd_var (i := 9) (pv 9) (fun _ => rfl)))))) (pwd_or1 (ptd_val (pd_isi iLE (.ty _) (by rfl) mIsi (pe_bltn (by rfl) mLE (by decide +kernel) rfl) (PDr.pr (pd_var (i := 9) (pv 9) (fun _ => rfl))))))))) (fun _ => trivial) (pb_ret pd_bl (fun _ => trivial))
    (pb_nil () (fun s => by repeat (first | exact Wk.nil | apply Wk.eq | apply Wk.unk))))
    (fun _ => pb_for (T := Unit) (fun (_ : Unit) (s : LS) => [SV.unk, .own (.src s.q s.z), .own (.lst s.ws), .dat d3, .dat d4, .dat d5, .dat d6, .dat d7, .dat d8, .unk, .unk]) () (D.non) (fun h1 h2 h3 => ps_for (passes_of rfl) rfl h1 h2 h3) (pid_any (pd_var (i := 7) (pv 7) (fun _ => rfl))) (pgd_name (i := 9) (pg_name (i := 9) scLaw.nd rfl (.inl rfl))) (fun _ => trivial) (fun s => by repeat (first | exact Wk.nil | apply Wk.eq | apply Wk.unk)) (by simp [jOf])
    (fun y _ => pb_ifx (PWD.ptd (pwd_or (ptd_not (ptd_val (pd_isi iLE (.ty _) (by rfl) mIsi (pe_bltn (by rfl) mLE (by decide +kernel) rfl) (PDr.pr (pd_var (i := 9) (pv 9) (fun _ => rfl)))))) (pwd_or (ptd_not (ptd_val (pd_isi iNM (.own _) (by rfl) mIsi (pe_glob (by rfl) mNM rfl) (PDr.pr (pd_var (i := 9) (pv 9) (fun _ => rfl)))))) (pwd_or1 (ptd_val (pd_isi iVE (.ty _) (by rfl) mIsi (pe_bltn (by rfl) mVE (by decide +kernel) rfl) (PDr.pr (pd_var (i := 9) (pv 9) (fun _ => rfl))))))))) (fun _ => trivial) (pb_ret pd_bl (fun _ => trivial))
    (pb_ifx (PWD.ptd (pwd_or (ptd_val (pd_isi iKE (.ty _) (by rfl) mIsi (pe_bltn (by rfl) mKE (by decide +kernel) rfl) (PDr.pr (pd_var (i := 9) (pv 9) (fun _ => rfl))))) (pwd_or1 (ptd_val (pd_isi iIE (.ty _) (by rfl) mIsi (pe_bltn (by rfl) mIE (by decide +kernel) rfl) (PDr.pr (pd_var (i := 9) (pv 9) (fun _ => rfl)))))))) (fun _ => trivial) (pb_ret pd_bl (fun _ => trivial))
    (pb_nil () (fun s => by repeat (first | exact Wk.nil | apply Wk.eq | apply Wk.unk)))))
    (fun _ => pb_ifx (PWD.ptd (pwd_or (ptd_cmp (op_neD hr.units) d_ne (pd_lcB (own := [("_law_e", 9)]) (D.non) rfl scLaw.nd (pid_any (pd_var (i := 5) (pv 5) (fun _ => rfl))) (blkOk_by rfl) (fun s H C cl fp => pgd_name (i := 9) (pg_name (i := 9) scLaw.nd rfl (.inl rfl))) (by simp) (fun _ _ => by repeat (first | exact Sd.nil | apply Sd.eq | apply Sd.own)) (fun _ => by simp [noOwn]) (fun y s H C cl fp => ptsd_nil) (fun y s H C cl fp => by exact (pd_xf TatNumber (pd_var (i := 9) (pv 9) (fun _ => rfl))))) (PDr.pr (pd_bin op_mulA d_mul (pd_lst (pad_cons (pd_var (i := 3) (pv 3) (fun _ => rfl)) pad_nil)) pd_int)) (nomark _)) (pwd_or (ptd_cmp (op_neD hr.units) d_ne (pd_xf TatPlace (pd_ix (hu_of hr) (pd_var (i := 5) (pv 5) (fun _ => rfl)) pd_int (fun _ _ => rfl))) (PDr.pr (pd_bin op_addA d_add (pd_var (i := 3) (pv 3) (fun _ => rfl)) pd_int)) (nomark _)) (pwd_or1 (ptd_cmp (op_neD hr.units) d_ne (pd_xf TatPlace (pd_ix (hu_of hr) (pd_var (i := 6) (pv 6) (fun _ => rfl)) pd_int (fun _ _ => rfl))) (PDr.pr (pd_var (i := 3) (pv 3) (fun _ => rfl))) (nomark _)))))) (fun _ => trivial) (pb_ret pd_bl (fun _ => trivial))
    (pb_ifx (PWD.ptd (pwd_or (ptd_cmp (op_neD hr.units) d_ne (pd_lst (pad_cons (pd_xf TatPart (pd_ix (hu_of hr) (pd_var (i := 6) (pv 6) (fun _ => rfl)) pd_int (fun _ _ => rfl))) (pad_cons (pd_xf TatMembers (pd_ix (hu_of hr) (pd_var (i := 6) (pv 6) (fun _ => rfl)) pd_int (fun _ _ => rfl))) pad_nil))) (PDr.pr (pd_lst (pad_cons (pd_ix (hu_of hr) (pd_var (i := 4) (pv 4) (fun _ => rfl)) pd_int (fun _ _ => rfl)) (pad_cons (pd_cty1 call_tuple_of d_tuple (by rfl) mTup boot_tup (PDr.pr (pd_var (i := 4) (pv 4) (fun _ => rfl)))) pad_nil)))) (nomark _)) (pwd_or1 (ptd_cmp (op_neD hr.units) d_ne (pd_xf TatFilled (pd_ix (hu_of hr) (pd_var (i := 6) (pv 6) (fun _ => rfl)) pd_int (fun _ _ => rfl))) (PDr.pr (pd_cty1 call_tuple_of d_tuple (by rfl) mTup boot_tup (PDr.pr (pd_var (i := 4) (pv 4) (fun _ => rfl))))) (nomark _))))) (fun _ => trivial) (pb_ret pd_bl (fun _ => trivial))
    (pb_ifx (ptd_cmp (op_neD hr.units) d_ne (pd_lst (pad_cons (pd_xf TatStart (pd_ix (hu_of hr) (pd_var (i := 6) (pv 6) (fun _ => rfl)) pd_int (fun _ _ => rfl))) (pad_cons (pd_xf TatLength (pd_ix (hu_of hr) (pd_var (i := 6) (pv 6) (fun _ => rfl)) pd_int (fun _ _ => rfl))) pad_nil))) (PDr.pr (pd_lst (pad_cons (pd_var (i := 3) (pv 3) (fun _ => rfl)) (pad_cons (pd_bin op_addA d_add (pd_var (i := 3) (pv 3) (fun _ => rfl)) pd_int) pad_nil)))) (nomark _)) (fun _ => trivial) (pb_ret pd_bl (fun _ => trivial))
    (pb_ifx (ptd_cmp (op_neD hr.units) d_ne (pd_lcB (own := [("_law_e", 9)]) (D.non) rfl scLaw.nd (pid_any (PF.pd (pf_slL (PDr.pr (pd_var (i := 6) (pv 6) (fun _ => rfl))) pso_int pso_none))) (blkOk_by rfl) (fun s H C cl fp => pgd_name (i := 9) (pg_name (i := 9) scLaw.nd rfl (.inl rfl))) (by simp) (fun _ _ => by repeat (first | exact Sd.nil | apply Sd.eq | apply Sd.own)) (fun _ => by simp [noOwn]) (fun y s H C cl fp => ptsd_nil) (fun y s H C cl fp => by exact (pd_xf TatName (pd_var (i := 9) (pv 9) (fun _ => rfl))))) (PDr.pr (pd_lst (pad_cons (pd_ix (hu_of hr) (pd_var (i := 4) (pv 4) (fun _ => rfl)) pd_int (fun _ _ => rfl)) (pad_cons (pd_ix (hu_of hr) (pd_var (i := 4) (pv 4) (fun _ => rfl)) pd_int (fun _ _ => rfl)) (pad_cons (pd_ix (hu_of hr) (pd_var (i := 4) (pv 4) (fun _ => rfl)) pd_int (fun _ _ => rfl)) (pad_cons (pd_ix (hu_of hr) (pd_var (i := 4) (pv 4) (fun _ => rfl)) pd_int (fun _ _ => rfl)) (pad_cons (pd_ix (hu_of hr) (pd_var (i := 4) (pv 4) (fun _ => rfl)) pd_int (fun _ _ => rfl)) pad_nil))))))) (nomark _)) (fun _ => trivial) (pb_ret pd_bl (fun _ => trivial))
    (pb_ifx (ptd_cmp (op_neD hr.units) d_ne (pd_lcB (own := [("_law_e", 9)]) (D.non) rfl scLaw.nd (pid_any (PF.pd (pf_slL (PDr.pr (pd_var (i := 7) (pv 7) (fun _ => rfl))) pso_none pso_int))) (blkOk_by rfl) (fun s H C cl fp => pgd_name (i := 9) (pg_name (i := 9) scLaw.nd rfl (.inl rfl))) (by simp) (fun _ _ => by repeat (first | exact Sd.nil | apply Sd.eq | apply Sd.own)) (fun _ => by simp [noOwn]) (fun y s H C cl fp => ptsd_nil) (fun y s H C cl fp => by exact (pd_xf TatName (pd_var (i := 9) (pv 9) (fun _ => rfl))))) (PDr.pr (pd_lst (pad_cons (pd_ix (hu_of hr) (pd_var (i := 4) (pv 4) (fun _ => rfl)) pd_int (fun _ _ => rfl)) (pad_cons (pd_ix (hu_of hr) (pd_var (i := 4) (pv 4) (fun _ => rfl)) pd_int (fun _ _ => rfl)) (pad_cons (pd_ix (hu_of hr) (pd_var (i := 4) (pv 4) (fun _ => rfl)) pd_int (fun _ _ => rfl)) (pad_cons (pd_ix (hu_of hr) (pd_var (i := 4) (pv 4) (fun _ => rfl)) pd_int (fun _ _ => rfl)) pad_nil)))))) (nomark _)) (fun _ => trivial) (pb_ret pd_bl (fun _ => trivial))
    (pb_ret (pd_cmpR (op_eqD hr.units) d_eq (pd_lst (pad_cons (pd_xf TatFact (pd_ix (hu_of hr) (pd_var (i := 7) (pv 7) (fun _ => rfl)) pd_int (fun _ _ => rfl))) (pad_cons (pd_xf TatName (pd_ix (hu_of hr) (pd_var (i := 7) (pv 7) (fun _ => rfl)) pd_int (fun _ _ => rfl))) (pad_cons (pd_xf TatFilled (pd_ix (hu_of hr) (pd_var (i := 7) (pv 7) (fun _ => rfl)) pd_int (fun _ _ => rfl))) pad_nil)))) (PDr.pr (pd_lst (pad_cons (pd_tup (pad_cons (pd_ix (hu_of hr) (pd_var (i := 4) (pv 4) (fun _ => rfl)) pd_int (fun _ _ => rfl)) (pad_cons (pd_tup (pad_cons (pd_ix (hu_of hr) (pd_var (i := 4) (pv 4) (fun _ => rfl)) pd_int (fun _ _ => rfl)) pad_nil)) pad_nil))) (pad_cons (pd_ix (hu_of hr) (pd_var (i := 4) (pv 4) (fun _ => rfl)) pd_int (fun _ _ => rfl)) (pad_cons (pd_cty1 call_tuple_of d_tuple (by rfl) mTup boot_tup (PDr.pr (pd_var (i := 4) (pv 4) (fun _ => rfl)))) pad_nil))))) (nomark _)) (fun _ => trivial))))))))) rfl (fun h => ps_expr h) (pe_bm PySem.F.plainAttrs_list PySem.F.slot_list_append PySem.F.type_list_append mt_append (pv 2) (pa_cons pe_str pa_nil)))), ?_⟩
    rintro ⟨q, z, ws⟩
    obtain ⟨a, z1, hw1, ha, la⟩ := word_ok z
    obtain ⟨b, z2, hw2, hb, lb⟩ := word_ok z1
    obtain ⟨k, z3, hk⟩ := pick_some z2 (m := 100) (by decide)
    have hr2 := pick_range hk
    have hp : pickG z2 [.int 100] = .ok (.int k) z3 := by simp [pickG, hk]
    have ma := msgOk_by ha la
    have mb := msgOk_by hb lb
    have oa := strOk_by ha
    have ob := strOk_by hb
    have k0 : 0 ≤ k := by omega
    have k1 : k ≤ 1000 := by omega
    refine ⟨⟨q, z3, [.str a, .str b, .str "zz"]⟩, ?_⟩
    have gN : gNumb [.int k] = .ok (dTold k) () := if_pos ⟨k0, k1⟩
    have gM : gNamed [.lst [.str a, .str b], .int k] = .ok (dNamed a b k) () := if_pos ⟨k0, k1, ma, mb⟩
    have gL : gLost [.lst [.str a, .str b]] = .ok (dLost a b) () := if_pos ⟨ma, mb⟩
    refine bstep (d := [.str a, .str b]) (s1 := ⟨q, z2, ws⟩) (by simp only [backS_ok, hw1, hw2, R.bind_ok]; rfl) ?_
    refine bstep (d := .int k) (s1 := ⟨q, z3, [.str a, .str b]⟩) (by simp only [R.bind_ok, hp, backS_ok]) ?_
    refine bstep (d := .lst [.str a, .str b]) (s1 := ⟨q, z3, [.str a, .str b]⟩) rfl ?_
    refine bstep (d := dTold k) (s1 := ⟨q, z3, [.str a, .str b]⟩) (by simp only [R.bind_ok, gN, R.lift_ok]) ?_
    refine bstep (d := dNamed a b k) (s1 := ⟨q, z3, [.str a, .str b]⟩) (by simp only [R.bind_ok, gM, R.lift_ok]; rfl) ?_
    refine bstep (d := dLost a b) (s1 := ⟨q, z3, [.str a, .str b]⟩) (by simp only [R.bind_ok, gL, R.lift_ok]; rfl) ?_
    refine bstep (d := dEvery a b k) (s1 := ⟨q, z3, [.str a, .str b]⟩) rfl ?_
    -- the classes
    refine bstep (d := false) (s1 := ⟨q, z3, [.str a, .str b]⟩) (bstep (d := false) (s1 := ⟨q, z3, [.str a, .str b]⟩) ?_ ?_) ?_
    · have e1 : eqF true (.lst [.str a, .str b]) (.lst [.str a, .str b]) = some (.bl false) := eqF_refl (by simp [toPy, toPys, PyData.canLay0, PyData.canLayAll0, oa, ob]) (by simp [toPy, toPys, PyData.depth, PyData.depthAll])
      simp only [R.bind_ok, e1, opt_some, e_bool]
      rfl
    · refine (if_neg Bool.false_ne_true).trans ?_
      refine bstep (d := .bl false) (s1 := ⟨q, z3, [.str a, .str b]⟩) ?_ rfl
      refine bstep (d := .lst ((dEveryL a b k).map clsOf)) (s1 := ⟨q, z3, [.str a, .str b]⟩) (lcM_map clsOf (ds := dEveryL a b k) rfl (by show 26 ≤ 1000000; decide) (dEvery_all a b k _)) ?_
      refine bstep (d := .lst (rg26.map fun d => .lst [d])) (s1 := ⟨q, z3, [.str a, .str b]⟩) (lcM_map (fun d => .lst [d]) (ds := rg26) rfl (by show 26 ≤ 1000000; decide) (fun x hx => rfl)) ?_
      rw [dEvery_cls, eqF_refl (by decide +kernel) (by decide +kernel)]
      rfl
    refine (if_neg Bool.false_ne_true).trans ?_
    refine bstep (d := .str "zz") (s1 := ⟨q, z3, [.str a, .str b]⟩) rfl ?_
    refine (if_pos (show (2 : Nat) < 1000000 by decide)).trans ?_
    -- the two loops
    refine bstep (d := dFirst a b k) (s1 := ⟨q, z3, [.str a, .str b, .str "zz"]⟩) rfl ?_
    refine (loop_skip (fun x hx nx bk => ?_)).trans ?_
    · simp only [dFirst, List.mem_cons, List.not_mem_nil, or_false] at hx
      rcases hx with rfl | rfl | rfl | rfl | rfl | rfl | rfl | rfl | rfl | rfl | rfl | rfl | rfl | rfl | rfl | rfl | rfl | rfl | rfl | rfl <;> rfl
    refine bstep (d := dLostL a b) (s1 := ⟨q, z3, [.str a, .str b, .str "zz"]⟩) rfl ?_
    refine (loop_skip (fun x hx nx bk => ?_)).trans ?_
    · simp only [dLostL, List.mem_cons, List.not_mem_nil, or_false] at hx
      rcases hx with rfl | rfl | rfl | rfl | rfl | rfl <;> rfl
    refine bstep (d := false) (s1 := ⟨q, z3, [.str a, .str b, .str "zz"]⟩) (bstep (ne_step (x := .lst [.int k, .int k, .int k, .int k]) rfl rfl (by simp [toPy, toPys, PyData.canLay0, PyData.canLayAll0, oa, ob]) (by simp [toPy, toPys, PyData.depth, PyData.depthAll])) ((if_neg Bool.false_ne_true).trans (bstep (ne_step (x := .int (k + 1)) rfl rfl (by simp [toPy, toPys, PyData.canLay0, PyData.canLayAll0, oa, ob]) (by simp [toPy, toPys, PyData.depth, PyData.depthAll])) ((if_neg Bool.false_ne_true).trans (ne_step (x := .int k) rfl rfl (by simp [toPy, toPys, PyData.canLay0, PyData.canLayAll0, oa, ob]) (by simp [toPy, toPys, PyData.depth, PyData.depthAll])))))) ((if_neg Bool.false_ne_true).trans ?_)
    refine bstep (d := false) (s1 := ⟨q, z3, [.str a, .str b, .str "zz"]⟩) (bstep (ne_step (x := .lst [.str a, .tup [.str a, .str b]]) rfl rfl (by simp [toPy, toPys, PyData.canLay0, PyData.canLayAll0, oa, ob]) (by simp [toPy, toPys, PyData.depth, PyData.depthAll])) ((if_neg Bool.false_ne_true).trans (ne_step (x := .tup [.str a, .str b]) rfl rfl (by simp [toPy, toPys, PyData.canLay0, PyData.canLayAll0, oa, ob]) (by simp [toPy, toPys, PyData.depth, PyData.depthAll])))) ((if_neg Bool.false_ne_true).trans ?_)
    refine bstep (d := false) (s1 := ⟨q, z3, [.str a, .str b, .str "zz"]⟩) (ne_step (x := .lst [.int k, .int (k + 2)]) rfl rfl (by simp [toPy, toPys, PyData.canLay0, PyData.canLayAll0, oa, ob]) (by simp [toPy, toPys, PyData.depth, PyData.depthAll])) ((if_neg Bool.false_ne_true).trans ?_)
    refine bstep (d := false) (s1 := ⟨q, z3, [.str a, .str b, .str "zz"]⟩) (ne_step (x := .lst [.str b, .str a, .str b, .str a, .str b]) rfl rfl (by simp [toPy, toPys, PyData.canLay0, PyData.canLayAll0, oa, ob]) (by simp [toPy, toPys, PyData.depth, PyData.depthAll])) ((if_neg Bool.false_ne_true).trans ?_)
    refine bstep (d := false) (s1 := ⟨q, z3, [.str a, .str b, .str "zz"]⟩) (ne_step (x := .lst [.str a, .str b, .str a, .str b]) rfl rfl (by simp [toPy, toPys, PyData.canLay0, PyData.canLayAll0, oa, ob]) (by simp [toPy, toPys, PyData.depth, PyData.depthAll])) ((if_neg Bool.false_ne_true).trans ?_)
    refine bstep (d := .bl true) (s1 := ⟨q, z3, [.str a, .str b, .str "zz"]⟩) ?_ rfl
    refine eq_step (x := .lst [.tup [.str a, .tup [.str b]], .str b, .tup [.str a, .str b]]) ?_ ?_ (by simp [toPy, toPys, PyData.canLay0, PyData.canLayAll0, oa, ob]) (by simp [toPy, toPys, PyData.depth, PyData.depthAll])
    · rfl
    · rfl
  obtain ⟨t, m, pb, em⟩ := pb
  refine ⟨_, pss_cons (ps_set (i := 1) scLaw.nd rfl (.inl rfl) (pe_callS FS (hr.mono (by decide)) (by rfl) nS kS bS (fun σ => passAt tkE σ) (pa_cons (pv 0) pa_nil))) pb.ps, ?_⟩
  refine ⟨_, rfl, a, ns, rfl, hS, hn, fun z p q H' hp hq npq sm e1 e2 => ?_⟩
  obtain ⟨s', em⟩ := em ⟨q, z, []⟩
  refine pb.de (β := D) (fc := ⟨[], []⟩) (G := fun _ _ _ r => ∃ s', r = .ok (.bl true) s') ⟨fun a _ => a, (fun a => by obtain ⟨_, h⟩ := a; cases h), (fun a _ _ _ => by obtain ⟨_, h⟩ := a; cases h)⟩ rfl (s := ⟨q, z, []⟩) (O := [p, q]) (F := fun _ => none)
    ⟨⟨fun b o h => (nomatch h), rfl, fun i d hi => ?_, fun i o hi => ?_, fun i j o o' v v' hij hi hj => ?_, fun b _ => rfl, fun b hb => ?_⟩, (fun j hj => nomatch hj)⟩ ⟨s', em⟩
    ⟨fun d s' O' F' σ' H' v Γ' e r _ dv a => ?_, fun _ s' O' F' σ' H' e r a => ?_, (fun t => nomatch t), (fun t => nomatch t)⟩
  · match i, hi with
    | 0, hi => cases hi
    | 1, hi => cases hi
    | n + 2, hi => exact absurd (List.mem_of_getElem? (show (List.replicate 9 SV.unk)[n]? = some (.dat d) from hi)) (by simp)
  · match i, hi with
    | 0, hi => cases hi
    | 1, hi => cases hi; exact ⟨.ref p, rfl, ⟨p, rfl, e1, e2⟩, fun b hb => by simpa [fp] using hb⟩
    | n + 2, hi => exact absurd (List.mem_of_getElem? (show (List.replicate 9 SV.unk)[n]? = some (.own o) from hi)) (by simp)
  · have one : ∀ (k : Nat) (o : OV), ([SV.unk, .own (.src q z), .unk, .unk, .unk, .unk, .unk, .unk, .unk, .unk, .unk] : List SV)[k]? = some (.own o) → k = 1 := fun k o hk => by
      match k, hk with
      | 0, hk => cases hk
      | 1, hk => rfl
      | n + 2, hk => exact absurd (List.mem_of_getElem? (show (List.replicate 9 SV.unk)[n]? = some (.own o) from hk)) (by simp)
    exact absurd ((one i o hi).trans (one j o' hj).symm) hij
  · simp only [List.mem_cons, List.not_mem_nil, or_false] at hb
    rcases hb with rfl | rfl
    · rw [e1]; simp
    · rw [e2]; simp
  · obtain ⟨_, h⟩ := a
    cases h
    cases dv
    exact fin H'
  · obtain ⟨_, h⟩ := a
    cases h
end
end HD
set_option maxRecDepth 100000
set_option maxHeartbeats 8000000
namespace HD
open PySem PySem.Spec PyProof.Rows L2
abbrev tailVE : List Value := [.type "ValueError", .type "Exception", .type "BaseException", .type "object"]
abbrev tailLE : List Value := [.type "LookupError", .type "Exception", .type "BaseException", .type "object"]
def csOf (l : List Addr) : Cs := fun c => (l.getD c 0, names91.getD c [])
/-- what the text must say of the class at C, its __init__ at f -/
def ecB (K : PySem.W.Frag) (C f : Addr) (B newId initId : String) (bmB : List Value) (flds : List Str) : Bool :=
  PySem.W.excInitIn K C bmB newId && (PySem.W.excOver K C bmB && (PySem.W.hasDictIn K C && (decide (PySem.W.findIn K (.ref C) "__setattr__" = some (some (.builtin "object.__setattr__"))) && (decide (PySem.W.ks_superIn K C C "__init__" = some (some (.builtin initId))) &&
  (decide (PySem.W.subIn K (.ref C) (.type B) = some true) && (decide (PySem.W.mroIn K C (.ref C) = some true) && (decide (PySem.W.typeIn K (.ref C) = some (.type "type")) && (PySem.W.keepIn K (.ref C) && (decide (PySem.W.subIn K (.ref C) (.type "BaseException") = some true) &&
  (decide (PySem.W.nsIn K PySem.cStatics "thirdparty.any" = some none) && (decide (PySem.W.findIn K (.ref C) "__init__" = some (some (.ref f))) && (decide (PySem.W.typeIn K (.ref f) = some (.type "function")) && ((PySem.W.clsIn K C).isSome &&
  ((flds.all fun n => decide (PySem.W.takerIn K C n = some none) && decide (PySem.W.findIn K (.ref C) n = some none)) && (decide (PySem.W.findIn K (.ref C) "__getattribute__" = some (some (.builtin "BaseException.__getattribute__"))) && (decide (PySem.W.findIn K (.ref C) "__getattr__" = some none) &&
  (decide (PySem.W.findIn K (.ref C) "__class__" = some (some (.builtin "object.__class__"))) && (decide (PySem.W.specialIn K (.builtin "object.__class__") "__get__" = some (some (.builtin "getset_descriptor.__get__"))) && (decide (PySem.W.takesIn K (.builtin "object.__class__") = some true) && decide (PySem.W.mroIn K C (.type "object") = some true))))))))))))))))))))
structure ECs (K : PySem.W.Frag) (C f : Addr) (B newId initId : String) (bmB : List Value) (flds : List Str) : Prop where
  ec : EC K C B newId initId bmB
  ini : PySem.W.findIn K (.ref C) "__init__" = some (some (.ref f))
  ty : PySem.W.typeIn K (.ref f) = some (.type "function")
  cls : (PySem.W.clsIn K C).isSome = true
  tk : ∀ n ∈ flds, PySem.W.takerIn K C n = some none
  fn : ∀ n ∈ flds, PySem.W.findIn K (.ref C) n = some none
  xf : XfC K C
  xc : ExcC K C
theorem ecs_of {K : PySem.W.Frag} {C f : Addr} {B newId initId : String} {bmB : List Value} {flds : List Str} (eb : EB B newId initId bmB) (h : ecB K C f B newId initId bmB flds = true) : ECs K C f B newId initId bmB flds := by
  unfold ecB at h
  simp only [Bool.and_eq_true, decide_eq_true_eq, List.all_eq_true] at h
  obtain ⟨h1, h2, h3, h4, h5, h6, h7, h8, h9, h10, h11, h12, h13, h14, h15, h16, h17, h18, h19, h20, h21⟩ := h
  exact ⟨⟨eb, h1, h2, h3, h4, h5, h6, h7, h8, h9, h10, h11⟩, h12, h13, h14, fun n hn => (h15 n hn).1, fun n hn => (h15 n hn).2, ⟨h16, h17, h10, h3⟩, ⟨h16, h17, h10, h3, h18, h19, h20, h21⟩⟩
/-- a class as the top has made it -/
structure CF (P : Program) (K : PySem.W.Frag) (C : Addr) (qual : Str) (st : Stmt) (B newId initId : String) (bmB : List Value) (flds : List Str) : Prop where
  ex : ∃ (f cc cda : Addr) (kV dc pm : Value) (an : Option Addr) (ct : Value), FunS P K "__init__" qual st f cc cda C (PySem.W.fnX "__init__" qual (defArgs st) (defBody st) (defScope st) [(clsName, cc)] .none kV dc pm an (.ref cda) ct) ∧ ECs K C f B newId initId bmB flds
theorem cf_mk {P : Program} {K : PySem.W.Frag} {C f cc cda : Addr} {qual : Str} {st : Stmt} {B newId initId : String} {bmB : List Value} {flds : List Str} {kV dc pm ct oc ccl cl : Value} {an od cdd cld : Option Addr} {osl ccs csl : Array (Option Value)} {vs : Array Value} {file : Str} {tf : Tok} (eb : EB B newId initId bmB)
    (_i : PySem.W.findIn K (.ref C) "__init__" = some (some (.ref f)))
    (l : K.lookup f = some ⟨oc, od, .func (PySem.W.fnX "__init__" qual (defArgs st) (defBody st) (defScope st) [(clsName, cc)] .none kV dc pm an (.ref cda) ct), osl⟩) (c : PySem.W.codeIn K (.ref cda) qual = true) (d : K.lookup cda = some ⟨ccl, cdd, .fields vs, ccs⟩) (e : K.lookup cc = some ⟨cl, cld, .cell (some (.ref C)), csl⟩)
    (v : vs[2]? = some (.str file tf)) (hf : ((P.main.file : Str) == file) = true) (tp : (P.main.scope.names.lookup ("super" : Str)).isSome = false) (x : ecB K C f B newId initId bmB flds = true) : CF P K C qual st B newId initId bmB flds := by
  have E := ecs_of eb x
  exact ⟨f, cc, cda, kV, dc, pm, an, ct, ⟨⟨_, _, _, _, _, _, _, _, rfl, l, c⟩, ⟨_, _, _, _, _, _, d, v, hf⟩, ⟨_, _, _, e⟩, E.cls, tp⟩, E⟩
/-- the answers of isinstance -/
def isB (K : PySem.W.Frag) (l : List Addr) (u : Value) (t : Nat → Bool) : Bool := (List.range 26).all fun c => decide (PySem.W.kitOne K (.ref (l.getD c 0)) u = some (t c))
theorem kit_any1 {K : PySem.W.Frag} {t u : Value} {b : Bool} (h : PySem.W.kitOne K t u = some b) : PySem.W.kitAny K t [u] = some b := kitAny_cons h (fun z => by rw [kitAny_nil, z]) fun z => z
theorem isT_ok {K : PySem.W.Frag} {l : List Addr} {u : Value} {t : Nat → Bool} (h : isB K l u t = true) (hx : ∀ c, c < 26 → ExcC K (csOf l c).1) : IsOk K (csOf l) [u] (isT t) := by
  unfold isB at h
  simp only [List.all_eq_true, List.mem_range, decide_eq_true_eq] at h
  refine ⟨fun x b hf => ?_, (fun c ds b hf => nomatch hf), fun c ds b hf => ?_⟩
  · cases x with
    | exc c fs =>
      have hf : (if c < 26 then some (t c) else none) = some b := hf
      split at hf
      · rename_i hc
        cases hf
        exact kit_any1 (h c hc)
      · cases hf
    | _ => cases hf
  · have hf : (if c < 26 then some (t c) else none) = some b := hf
    split at hf
    · rename_i hc; exact hx c hc
    · cases hf
theorem isE_eq (j : Nat) : isE j = isT (fun c => decide (c = j)) := by
  funext x
  cases x <;> rfl
theorem all_mk {l : PySem.W.OpenLaw} {w : World} {K : PySem.W.Frag} {h : Heap} {mg : Str → Option Value} {fa C0 C1 C2 C3 C4 C5 C6 C7 C8 C9 C10 C11 C12 C13 C14 C15 C16 C17 C18 C19 C20 C21 C22 C23 C24 C25 S0 N0 : Addr} (X : K.In h) (G : h.Ns mainGlobals mg) (hfa : mg "law" = some (.ref fa))
    {f0 f1 f2 f3 f4 f5 f6 f7 f8 : Addr} {od0 an0 od1 an1 od2 an2 od3 an3 od4 an4 od5 an5 od6 an6 od7 an7 od8 an8 : Option Addr} {sl0 sl1 sl2 sl3 sl4 sl5 sl6 sl7 sl8 : Array (Option Value)} {oc0 kV0 dc0 pm0 cd0 ct0 oc1 kV1 dc1 pm1 cd1 ct1 oc2 kV2 dc2 pm2 cd2 ct2 oc3 kV3 dc3 pm3 cd3 ct3 oc4 kV4 dc4 pm4 cd4 ct4 oc5 kV5 dc5 pm5 cd5 ct5 oc6 kV6 dc6 pm6 cd6 ct6 oc7 kV7 dc7 pm7 cd7 ct7 oc8 kV8 dc8 pm8 cd8 ct8 : Value}
    (aC0 : PySem.W.nsIn K mainGlobals "BadScale" = some (some (.ref C0)))
    (aC1 : PySem.W.nsIn K mainGlobals "BadImages" = some (some (.ref C1)))
    (aC2 : PySem.W.nsIn K mainGlobals "BadTable" = some (some (.ref C2)))
    (aC3 : PySem.W.nsIn K mainGlobals "BadTree" = some (some (.ref C3)))
    (aC4 : PySem.W.nsIn K mainGlobals "MixedScales" = some (some (.ref C4)))
    (aC5 : PySem.W.nsIn K mainGlobals "NotSteady" = some (some (.ref C5)))
    (aC6 : PySem.W.nsIn K mainGlobals "TooMany" = some (some (.ref C6)))
    (aC7 : PySem.W.nsIn K mainGlobals "NothingDone" = some (some (.ref C7)))
    (aC8 : PySem.W.nsIn K mainGlobals "BadRule" = some (some (.ref C8)))
    (aC9 : PySem.W.nsIn K mainGlobals "BadRow" = some (some (.ref C9)))
    (aC10 : PySem.W.nsIn K mainGlobals "NoRule" = some (some (.ref C10)))
    (aC11 : PySem.W.nsIn K mainGlobals "NotDerived" = some (some (.ref C11)))
    (aC12 : PySem.W.nsIn K mainGlobals "NotKept" = some (some (.ref C12)))
    (aC13 : PySem.W.nsIn K mainGlobals "BadText" = some (some (.ref C13)))
    (aC14 : PySem.W.nsIn K mainGlobals "GoesRound" = some (some (.ref C14)))
    (aC15 : PySem.W.nsIn K mainGlobals "BadName" = some (some (.ref C15)))
    (aC16 : PySem.W.nsIn K mainGlobals "BadArity" = some (some (.ref C16)))
    (aC17 : PySem.W.nsIn K mainGlobals "DerivedRow" = some (some (.ref C17)))
    (aC18 : PySem.W.nsIn K mainGlobals "BadThing" = some (some (.ref C18)))
    (aC19 : PySem.W.nsIn K mainGlobals "TwiceTold" = some (some (.ref C19)))
    (aC20 : PySem.W.nsIn K mainGlobals "UnknownWorth" = some (some (.ref C20)))
    (aC21 : PySem.W.nsIn K mainGlobals "UnknownName" = some (some (.ref C21)))
    (aC22 : PySem.W.nsIn K mainGlobals "UnknownThing" = some (some (.ref C22)))
    (aC23 : PySem.W.nsIn K mainGlobals "NotTold" = some (some (.ref C23)))
    (aC24 : PySem.W.nsIn K mainGlobals "UnknownFact" = some (some (.ref C24)))
    (aC25 : PySem.W.nsIn K mainGlobals "NoRow" = some (some (.ref C25)))
    (aS : PySem.W.nsIn K mainGlobals "SettlescaleError" = some (some (.ref S0))) (aN : PySem.W.nsIn K mainGlobals "NameMissing" = some (some (.ref N0)))
    (F0 : CF l.prog K C0 "BadScale.__init__" sBadScale "ValueError" "ValueError.__new__" "ValueError.__init__" tailVE ([] : List Str))
    (F1 : CF l.prog K C1 "BadImages.__init__" sBadImages "ValueError" "ValueError.__new__" "ValueError.__init__" tailVE ([] : List Str))
    (F2 : CF l.prog K C2 "BadTable.__init__" sBadTable "ValueError" "ValueError.__new__" "ValueError.__init__" tailVE ([] : List Str))
    (F3 : CF l.prog K C3 "BadTree.__init__" sBadTree "ValueError" "ValueError.__new__" "ValueError.__init__" tailVE ([] : List Str))
    (F4 : CF l.prog K C4 "MixedScales.__init__" sMixedScales "ValueError" "ValueError.__new__" "ValueError.__init__" tailVE ([] : List Str))
    (F5 : CF l.prog K C5 "NotSteady.__init__" sNotSteady "ValueError" "ValueError.__new__" "ValueError.__init__" tailVE ([] : List Str))
    (F6 : CF l.prog K C6 "TooMany.__init__" sTooMany "ValueError" "ValueError.__new__" "ValueError.__init__" tailVE ([] : List Str))
    (F7 : CF l.prog K C7 "NothingDone.__init__" sNothingDone "ValueError" "ValueError.__new__" "ValueError.__init__" tailVE ([] : List Str))
    (F8 : CF l.prog K C8 "BadRule.__init__" sBadRule "ValueError" "ValueError.__new__" "ValueError.__init__" tailVE (["number"] : List Str))
    (F9 : CF l.prog K C9 "BadRow.__init__" sBadRow "ValueError" "ValueError.__new__" "ValueError.__init__" tailVE (["number"] : List Str))
    (F10 : CF l.prog K C10 "NoRule.__init__" sNoRule "ValueError" "ValueError.__new__" "ValueError.__init__" tailVE (["number"] : List Str))
    (F11 : CF l.prog K C11 "NotDerived.__init__" sNotDerived "ValueError" "ValueError.__new__" "ValueError.__init__" tailVE (["number", "place"] : List Str))
    (F12 : CF l.prog K C12 "NotKept.__init__" sNotKept "ValueError" "ValueError.__new__" "ValueError.__init__" tailVE (["part", "members"] : List Str))
    (F13 : CF l.prog K C13 "BadText.__init__" sBadText "ValueError" "ValueError.__new__" "ValueError.__init__" tailVE (["place"] : List Str))
    (F14 : CF l.prog K C14 "GoesRound.__init__" sGoesRound "ValueError" "ValueError.__new__" "ValueError.__init__" tailVE (["start", "length"] : List Str))
    (F15 : CF l.prog K C15 "BadName.__init__" sBadName "ValueError" "ValueError.__new__" "ValueError.__init__" tailVE (["name"] : List Str))
    (F16 : CF l.prog K C16 "BadArity.__init__" sBadArity "ValueError" "ValueError.__new__" "ValueError.__init__" tailVE (["name"] : List Str))
    (F17 : CF l.prog K C17 "DerivedRow.__init__" sDerivedRow "ValueError" "ValueError.__new__" "ValueError.__init__" tailVE (["name"] : List Str))
    (F18 : CF l.prog K C18 "BadThing.__init__" sBadThing "ValueError" "ValueError.__new__" "ValueError.__init__" tailVE (["name"] : List Str))
    (F19 : CF l.prog K C19 "TwiceTold.__init__" sTwiceTold "ValueError" "ValueError.__new__" "ValueError.__init__" tailVE (["name", "filled"] : List Str))
    (F20 : CF l.prog K C20 "UnknownWorth.__init__" sUnknownWorth "LookupError" "LookupError.__new__" "LookupError.__init__" tailLE (["name"] : List Str))
    (F21 : CF l.prog K C21 "UnknownName.__init__" sUnknownName "LookupError" "LookupError.__new__" "LookupError.__init__" tailLE (["name"] : List Str))
    (F22 : CF l.prog K C22 "UnknownThing.__init__" sUnknownThing "LookupError" "LookupError.__new__" "LookupError.__init__" tailLE (["name"] : List Str))
    (F23 : CF l.prog K C23 "NotTold.__init__" sNotTold "LookupError" "LookupError.__new__" "LookupError.__init__" tailLE (["name"] : List Str))
    (F24 : CF l.prog K C24 "UnknownFact.__init__" sUnknownFact "LookupError" "LookupError.__new__" "LookupError.__init__" tailLE (["fact"] : List Str))
    (F25 : CF l.prog K C25 "NoRow.__init__" sNoRow "LookupError" "LookupError.__new__" "LookupError.__init__" tailLE (["name", "filled"] : List Str))
    (a0 : PySem.W.nsIn K mainGlobals "_law_source" = some (some (.ref f0))) (l0 : K.lookup f0 = some ⟨oc0, od0, .func (PySem.W.fnOf "_law_source" "_law_source" (defArgs sSrc) (defBody sSrc) (defScope sSrc) .none kV0 dc0 pm0 an0 cd0 ct0), sl0⟩) (c0 : PySem.W.codeIn K cd0 "_law_source" = true) (k0 : PySem.W.keepIn K (.ref f0) = true)
    (a1 : PySem.W.nsIn K mainGlobals "_law_pick" = some (some (.ref f1))) (l1 : K.lookup f1 = some ⟨oc1, od1, .func (PySem.W.fnOf "_law_pick" "_law_pick" (defArgs sPick) (defBody sPick) (defScope sPick) .none kV1 dc1 pm1 an1 cd1 ct1), sl1⟩) (c1 : PySem.W.codeIn K cd1 "_law_pick" = true) (k1 : PySem.W.keepIn K (.ref f1) = true)
    (a2 : PySem.W.nsIn K mainGlobals "_law_word" = some (some (.ref f2))) (l2 : K.lookup f2 = some ⟨oc2, od2, .func (PySem.W.fnOf "_law_word" "_law_word" (defArgs sWord) (defBody sWord) (defScope sWord) .none kV2 dc2 pm2 an2 cd2 ct2), sl2⟩) (c2 : PySem.W.codeIn K cd2 "_law_word" = true) (k2 : PySem.W.keepIn K (.ref f2) = true)
    (a3 : PySem.W.nsIn K mainGlobals "_law_classes" = some (some (.ref f3))) (l3 : K.lookup f3 = some ⟨oc3, od3, .func (PySem.W.fnOf "_law_classes" "_law_classes" (defArgs sCls) (defBody sCls) (defScope sCls) .none kV3 dc3 pm3 an3 cd3 ct3), sl3⟩) (c3 : PySem.W.codeIn K cd3 "_law_classes" = true) (k3 : PySem.W.keepIn K (.ref f3) = true)
    (a4 : PySem.W.nsIn K mainGlobals "_law_plain" = some (some (.ref f4))) (l4 : K.lookup f4 = some ⟨oc4, od4, .func (PySem.W.fnOf "_law_plain" "_law_plain" (defArgs sPlain) (defBody sPlain) (defScope sPlain) .none kV4 dc4 pm4 an4 cd4 ct4), sl4⟩) (c4 : PySem.W.codeIn K cd4 "_law_plain" = true) (k4 : PySem.W.keepIn K (.ref f4) = true)
    (a5 : PySem.W.nsIn K mainGlobals "_law_numbered" = some (some (.ref f5))) (l5 : K.lookup f5 = some ⟨oc5, od5, .func (PySem.W.fnOf "_law_numbered" "_law_numbered" (defArgs sNumb) (defBody sNumb) (defScope sNumb) .none kV5 dc5 pm5 an5 cd5 ct5), sl5⟩) (c5 : PySem.W.codeIn K cd5 "_law_numbered" = true) (k5 : PySem.W.keepIn K (.ref f5) = true)
    (a6 : PySem.W.nsIn K mainGlobals "_law_named" = some (some (.ref f6))) (l6 : K.lookup f6 = some ⟨oc6, od6, .func (PySem.W.fnOf "_law_named" "_law_named" (defArgs sNamed) (defBody sNamed) (defScope sNamed) .none kV6 dc6 pm6 an6 cd6 ct6), sl6⟩) (c6 : PySem.W.codeIn K cd6 "_law_named" = true) (k6 : PySem.W.keepIn K (.ref f6) = true)
    (a7 : PySem.W.nsIn K mainGlobals "_law_lost" = some (some (.ref f7))) (l7 : K.lookup f7 = some ⟨oc7, od7, .func (PySem.W.fnOf "_law_lost" "_law_lost" (defArgs sLost) (defBody sLost) (defScope sLost) .none kV7 dc7 pm7 an7 cd7 ct7), sl7⟩) (c7 : PySem.W.codeIn K cd7 "_law_lost" = true) (k7 : PySem.W.keepIn K (.ref f7) = true)
    (a8 : PySem.W.nsIn K mainGlobals "law" = some (some (.ref f8))) (l8 : K.lookup f8 = some ⟨oc8, od8, .func (PySem.W.fnOf "law" "law" (defArgs sLaw) (defBody sLaw) (defScope sLaw) .none kV8 dc8 pm8 an8 cd8 ct8), sl8⟩) (c8 : PySem.W.codeIn K cd8 "law" = true) (k8 : PySem.W.keepIn K (.ref f8) = true)
    (z_super : PySem.W.nsIn K mainGlobals "super" = some none)
    (z_tuple : PySem.W.nsIn K mainGlobals "tuple" = some none)
    (z_len : PySem.W.nsIn K mainGlobals "len" = some none)
    (z_int : PySem.W.nsIn K mainGlobals "int" = some none)
    (z_abs : PySem.W.nsIn K mainGlobals "abs" = some none)
    (z_range : PySem.W.nsIn K mainGlobals "range" = some none)
    (z_str : PySem.W.nsIn K mainGlobals "str" = some none)
    (z_list : PySem.W.nsIn K mainGlobals "list" = some none)
    (z_isinstance : PySem.W.nsIn K mainGlobals "isinstance" = some none)
    (z_ValueError : PySem.W.nsIn K mainGlobals "ValueError" = some none)
    (z_LookupError : PySem.W.nsIn K mainGlobals "LookupError" = some none)
    (z_KeyError : PySem.W.nsIn K mainGlobals "KeyError" = some none)
    (z_IndexError : PySem.W.nsIn K mainGlobals "IndexError" = some none)
    (qAll : ((List.range 26).all fun j => isB K [C0, C1, C2, C3, C4, C5, C6, C7, C8, C9, C10, C11, C12, C13, C14, C15, C16, C17, C18, C19, C20, C21, C22, C23, C24, C25] (.ref ([C0, C1, C2, C3, C4, C5, C6, C7, C8, C9, C10, C11, C12, C13, C14, C15, C16, C17, C18, C19, C20, C21, C22, C23, C24, C25].getD j 0)) fun c => decide (c = j)) = true)
    (qVE : isB K [C0, C1, C2, C3, C4, C5, C6, C7, C8, C9, C10, C11, C12, C13, C14, C15, C16, C17, C18, C19, C20, C21, C22, C23, C24, C25] (.type "ValueError") (fun c => decide (c < 20)) = true)
    (qSE : isB K [C0, C1, C2, C3, C4, C5, C6, C7, C8, C9, C10, C11, C12, C13, C14, C15, C16, C17, C18, C19, C20, C21, C22, C23, C24, C25] (.ref S0) (fun c => decide (c < 20)) = true)
    (qLE : isB K [C0, C1, C2, C3, C4, C5, C6, C7, C8, C9, C10, C11, C12, C13, C14, C15, C16, C17, C18, C19, C20, C21, C22, C23, C24, C25] (.type "LookupError") (fun c => decide (20 ≤ c)) = true)
    (qNM : isB K [C0, C1, C2, C3, C4, C5, C6, C7, C8, C9, C10, C11, C12, C13, C14, C15, C16, C17, C18, C19, C20, C21, C22, C23, C24, C25] (.ref N0) (fun c => decide (20 ≤ c)) = true)
    (qKE : isB K [C0, C1, C2, C3, C4, C5, C6, C7, C8, C9, C10, C11, C12, C13, C14, C15, C16, C17, C18, C19, C20, C21, C22, C23, C24, C25] (.type "KeyError") (fun _ => false) = true)
    (qIE : isB K [C0, C1, C2, C3, C4, C5, C6, C7, C8, C9, C10, C11, C12, C13, C14, C15, C16, C17, C18, C19, C20, C21, C22, C23, C24, C25] (.type "IndexError") (fun _ => false) = true)
    : ∃ fd : FuncData, (∀ (s : Shared) (v : Value), BindsTo s fd ⟨[v], []⟩ [("_law_script", v)]) ∧ ∀ base : Heap, K.In base → base.Ns mainGlobals mg → FnOk l.prog w K mg base (L2.CX l.prog w) 4 fa fd ["_law_script"] (spLaw K) := by
  have e := hfa.symm.trans (PySem.W.mg_of X G a8)
  cases e
  have y_super := PySem.W.mg_none_of X G z_super
  have y_tuple := PySem.W.mg_none_of X G z_tuple
  have y_len := PySem.W.mg_none_of X G z_len
  have y_int := PySem.W.mg_none_of X G z_int
  have y_abs := PySem.W.mg_none_of X G z_abs
  have y_range := PySem.W.mg_none_of X G z_range
  have y_str := PySem.W.mg_none_of X G z_str
  have y_list := PySem.W.mg_none_of X G z_list
  have y_isinstance := PySem.W.mg_none_of X G z_isinstance
  have y_ValueError := PySem.W.mg_none_of X G z_ValueError
  have y_LookupError := PySem.W.mg_none_of X G z_LookupError
  have y_KeyError := PySem.W.mg_none_of X G z_KeyError
  have y_IndexError := PySem.W.mg_none_of X G z_IndexError
  obtain ⟨g0, cc0, cda0, kW0, dW0, pW0, aW0, tW0, S0, E0⟩ := F0.ex
  obtain ⟨g1, cc1, cda1, kW1, dW1, pW1, aW1, tW1, S1, E1⟩ := F1.ex
  obtain ⟨g2, cc2, cda2, kW2, dW2, pW2, aW2, tW2, S2, E2⟩ := F2.ex
  obtain ⟨g3, cc3, cda3, kW3, dW3, pW3, aW3, tW3, S3, E3⟩ := F3.ex
  obtain ⟨g4, cc4, cda4, kW4, dW4, pW4, aW4, tW4, S4, E4⟩ := F4.ex
  obtain ⟨g5, cc5, cda5, kW5, dW5, pW5, aW5, tW5, S5, E5⟩ := F5.ex
  obtain ⟨g6, cc6, cda6, kW6, dW6, pW6, aW6, tW6, S6, E6⟩ := F6.ex
  obtain ⟨g7, cc7, cda7, kW7, dW7, pW7, aW7, tW7, S7, E7⟩ := F7.ex
  obtain ⟨g8, cc8, cda8, kW8, dW8, pW8, aW8, tW8, S8, E8⟩ := F8.ex
  obtain ⟨g9, cc9, cda9, kW9, dW9, pW9, aW9, tW9, S9, E9⟩ := F9.ex
  obtain ⟨g10, cc10, cda10, kW10, dW10, pW10, aW10, tW10, S10, E10⟩ := F10.ex
  obtain ⟨g11, cc11, cda11, kW11, dW11, pW11, aW11, tW11, S11, E11⟩ := F11.ex
  obtain ⟨g12, cc12, cda12, kW12, dW12, pW12, aW12, tW12, S12, E12⟩ := F12.ex
  obtain ⟨g13, cc13, cda13, kW13, dW13, pW13, aW13, tW13, S13, E13⟩ := F13.ex
  obtain ⟨g14, cc14, cda14, kW14, dW14, pW14, aW14, tW14, S14, E14⟩ := F14.ex
  obtain ⟨g15, cc15, cda15, kW15, dW15, pW15, aW15, tW15, S15, E15⟩ := F15.ex
  obtain ⟨g16, cc16, cda16, kW16, dW16, pW16, aW16, tW16, S16, E16⟩ := F16.ex
  obtain ⟨g17, cc17, cda17, kW17, dW17, pW17, aW17, tW17, S17, E17⟩ := F17.ex
  obtain ⟨g18, cc18, cda18, kW18, dW18, pW18, aW18, tW18, S18, E18⟩ := F18.ex
  obtain ⟨g19, cc19, cda19, kW19, dW19, pW19, aW19, tW19, S19, E19⟩ := F19.ex
  obtain ⟨g20, cc20, cda20, kW20, dW20, pW20, aW20, tW20, S20, E20⟩ := F20.ex
  obtain ⟨g21, cc21, cda21, kW21, dW21, pW21, aW21, tW21, S21, E21⟩ := F21.ex
  obtain ⟨g22, cc22, cda22, kW22, dW22, pW22, aW22, tW22, S22, E22⟩ := F22.ex
  obtain ⟨g23, cc23, cda23, kW23, dW23, pW23, aW23, tW23, S23, E23⟩ := F23.ex
  obtain ⟨g24, cc24, cda24, kW24, dW24, pW24, aW24, tW24, S24, E24⟩ := F24.ex
  obtain ⟨g25, cc25, cda25, kW25, dW25, pW25, aW25, tW25, S25, E25⟩ := F25.ex
  have D0 := fun_mk (st := sSrc) l0 c0 k0
  have b0 := D0.binds (ps := (["_law_script"] : List Str)) fun _ _ _ _ _ _ us hl => match us, hl with | [_], _ => rfl
  have D1 := fun_mk (st := sPick) l1 c1 k1
  have b1 := D1.binds (ps := (["_law_source_here", "_law_many"] : List Str)) fun _ _ _ _ _ _ us hl => match us, hl with | [_, _], _ => rfl
  have D2 := fun_mk (st := sWord) l2 c2 k2
  have b2 := D2.binds (ps := (["_law_source_here"] : List Str)) fun _ _ _ _ _ _ us hl => match us, hl with | [_], _ => rfl
  have D3 := fun_mk (st := sCls) l3 c3 k3
  have b3 := D3.binds (ps := (["_law_e"] : List Str)) fun _ _ _ _ _ _ us hl => match us, hl with | [_], _ => rfl
  have D4 := fun_mk (st := sPlain) l4 c4 k4
  have b4 := D4.binds (ps := ([] : List Str)) fun _ _ _ _ _ _ us hl => match us, hl with | [], _ => rfl
  have D5 := fun_mk (st := sNumb) l5 c5 k5
  have b5 := D5.binds (ps := (["_law_number"] : List Str)) fun _ _ _ _ _ _ us hl => match us, hl with | [_], _ => rfl
  have D6 := fun_mk (st := sNamed) l6 c6 k6
  have b6 := D6.binds (ps := (["_law_words", "_law_number"] : List Str)) fun _ _ _ _ _ _ us hl => match us, hl with | [_, _], _ => rfl
  have D7 := fun_mk (st := sLost) l7 c7 k7
  have b7 := D7.binds (ps := (["_law_words"] : List Str)) fun _ _ _ _ _ _ us hl => match us, hl with | [_], _ => rfl
  have D8 := fun_mk (st := sLaw) l8 c8 k8
  have b8 := D8.binds (ps := (["_law_script"] : List Str)) fun _ _ _ _ _ _ us hl => match us, hl with | [_], _ => rfl
  have hx : ∀ c, c < 26 → ExcC K (csOf [C0, C1, C2, C3, C4, C5, C6, C7, C8, C9, C10, C11, C12, C13, C14, C15, C16, C17, C18, C19, C20, C21, C22, C23, C24, C25] c).1 := fun c hc => match c, hc with
    | 0, _ => E0.xc
    | 1, _ => E1.xc
    | 2, _ => E2.xc
    | 3, _ => E3.xc
    | 4, _ => E4.xc
    | 5, _ => E5.xc
    | 6, _ => E6.xc
    | 7, _ => E7.xc
    | 8, _ => E8.xc
    | 9, _ => E9.xc
    | 10, _ => E10.xc
    | 11, _ => E11.xc
    | 12, _ => E12.xc
    | 13, _ => E13.xc
    | 14, _ => E14.xc
    | 15, _ => E15.xc
    | 16, _ => E16.xc
    | 17, _ => E17.xc
    | 18, _ => E18.xc
    | 19, _ => E19.xc
    | 20, _ => E20.xc
    | 21, _ => E21.xc
    | 22, _ => E22.xc
    | 23, _ => E23.xc
    | 24, _ => E24.xc
    | 25, _ => E25.xc
    | n + 26, hc => absurd hc (by omega)
  simp only [List.all_eq_true, List.mem_range] at qAll
  have IA : IsAll K (csOf [C0, C1, C2, C3, C4, C5, C6, C7, C8, C9, C10, C11, C12, C13, C14, C15, C16, C17, C18, C19, C20, C21, C22, C23, C24, C25]) := ⟨fun j hj => by rw [isE_eq]; exact isT_ok (qAll j hj) hx⟩
  refine ⟨PySem.W.fnOf "law" "law" (defArgs sLaw) (defBody sLaw) (defScope sLaw) .none kV8 dc8 pm8 an8 cd8 ct8, fun s v => .of_eq rfl, fun base _ _ => ?_⟩
  have M0 : XM l.prog w K mg base (csOf [C0, C1, C2, C3, C4, C5, C6, C7, C8, C9, C10, C11, C12, C13, C14, C15, C16, C17, C18, C19, C20, C21, C22, C23, C24, C25]) 0 ([] : List Str) gBadScale := ⟨_, _, _, _, _, _, E0.ec, E0.ini, E0.ty, ok_BadScale (cs := csOf [C0, C1, C2, C3, C4, C5, C6, C7, C8, C9, C10, C11, C12, C13, C14, C15, C16, C17, C18, C19, C20, C21, C22, C23, C24, C25]) S0 E0.ec rfl y_super y_tuple E0.tk, .all fun us hl => match us, hl with | [_], _ => rfl⟩
  have M1 : XM l.prog w K mg base (csOf [C0, C1, C2, C3, C4, C5, C6, C7, C8, C9, C10, C11, C12, C13, C14, C15, C16, C17, C18, C19, C20, C21, C22, C23, C24, C25]) 1 ([] : List Str) gBadImages := ⟨_, _, _, _, _, _, E1.ec, E1.ini, E1.ty, ok_BadImages (cs := csOf [C0, C1, C2, C3, C4, C5, C6, C7, C8, C9, C10, C11, C12, C13, C14, C15, C16, C17, C18, C19, C20, C21, C22, C23, C24, C25]) S1 E1.ec rfl y_super y_tuple E1.tk, .all fun us hl => match us, hl with | [_], _ => rfl⟩
  have M2 : XM l.prog w K mg base (csOf [C0, C1, C2, C3, C4, C5, C6, C7, C8, C9, C10, C11, C12, C13, C14, C15, C16, C17, C18, C19, C20, C21, C22, C23, C24, C25]) 2 ([] : List Str) gBadTable := ⟨_, _, _, _, _, _, E2.ec, E2.ini, E2.ty, ok_BadTable (cs := csOf [C0, C1, C2, C3, C4, C5, C6, C7, C8, C9, C10, C11, C12, C13, C14, C15, C16, C17, C18, C19, C20, C21, C22, C23, C24, C25]) S2 E2.ec rfl y_super y_tuple E2.tk, .all fun us hl => match us, hl with | [_], _ => rfl⟩
  have M3 : XM l.prog w K mg base (csOf [C0, C1, C2, C3, C4, C5, C6, C7, C8, C9, C10, C11, C12, C13, C14, C15, C16, C17, C18, C19, C20, C21, C22, C23, C24, C25]) 3 ([] : List Str) gBadTree := ⟨_, _, _, _, _, _, E3.ec, E3.ini, E3.ty, ok_BadTree (cs := csOf [C0, C1, C2, C3, C4, C5, C6, C7, C8, C9, C10, C11, C12, C13, C14, C15, C16, C17, C18, C19, C20, C21, C22, C23, C24, C25]) S3 E3.ec rfl y_super y_tuple E3.tk, .all fun us hl => match us, hl with | [_], _ => rfl⟩
  have M4 : XM l.prog w K mg base (csOf [C0, C1, C2, C3, C4, C5, C6, C7, C8, C9, C10, C11, C12, C13, C14, C15, C16, C17, C18, C19, C20, C21, C22, C23, C24, C25]) 4 ([] : List Str) gMixedScales := ⟨_, _, _, _, _, _, E4.ec, E4.ini, E4.ty, ok_MixedScales (cs := csOf [C0, C1, C2, C3, C4, C5, C6, C7, C8, C9, C10, C11, C12, C13, C14, C15, C16, C17, C18, C19, C20, C21, C22, C23, C24, C25]) S4 E4.ec rfl y_super y_tuple E4.tk, .all fun us hl => match us, hl with | [_], _ => rfl⟩
  have M5 : XM l.prog w K mg base (csOf [C0, C1, C2, C3, C4, C5, C6, C7, C8, C9, C10, C11, C12, C13, C14, C15, C16, C17, C18, C19, C20, C21, C22, C23, C24, C25]) 5 ([] : List Str) gNotSteady := ⟨_, _, _, _, _, _, E5.ec, E5.ini, E5.ty, ok_NotSteady (cs := csOf [C0, C1, C2, C3, C4, C5, C6, C7, C8, C9, C10, C11, C12, C13, C14, C15, C16, C17, C18, C19, C20, C21, C22, C23, C24, C25]) S5 E5.ec rfl y_super y_tuple E5.tk, .all fun us hl => match us, hl with | [_], _ => rfl⟩
  have M6 : XM l.prog w K mg base (csOf [C0, C1, C2, C3, C4, C5, C6, C7, C8, C9, C10, C11, C12, C13, C14, C15, C16, C17, C18, C19, C20, C21, C22, C23, C24, C25]) 6 ([] : List Str) gTooMany := ⟨_, _, _, _, _, _, E6.ec, E6.ini, E6.ty, ok_TooMany (cs := csOf [C0, C1, C2, C3, C4, C5, C6, C7, C8, C9, C10, C11, C12, C13, C14, C15, C16, C17, C18, C19, C20, C21, C22, C23, C24, C25]) S6 E6.ec rfl y_super y_tuple E6.tk, .all fun us hl => match us, hl with | [_], _ => rfl⟩
  have M7 : XM l.prog w K mg base (csOf [C0, C1, C2, C3, C4, C5, C6, C7, C8, C9, C10, C11, C12, C13, C14, C15, C16, C17, C18, C19, C20, C21, C22, C23, C24, C25]) 7 ([] : List Str) gNothingDone := ⟨_, _, _, _, _, _, E7.ec, E7.ini, E7.ty, ok_NothingDone (cs := csOf [C0, C1, C2, C3, C4, C5, C6, C7, C8, C9, C10, C11, C12, C13, C14, C15, C16, C17, C18, C19, C20, C21, C22, C23, C24, C25]) S7 E7.ec rfl y_super y_tuple E7.tk, .all fun us hl => match us, hl with | [_], _ => rfl⟩
  have M8 : XM l.prog w K mg base (csOf [C0, C1, C2, C3, C4, C5, C6, C7, C8, C9, C10, C11, C12, C13, C14, C15, C16, C17, C18, C19, C20, C21, C22, C23, C24, C25]) 8 (["number"] : List Str) gBadRule := ⟨_, _, _, _, _, _, E8.ec, E8.ini, E8.ty, ok_BadRule (cs := csOf [C0, C1, C2, C3, C4, C5, C6, C7, C8, C9, C10, C11, C12, C13, C14, C15, C16, C17, C18, C19, C20, C21, C22, C23, C24, C25]) S8 E8.ec rfl y_super y_tuple E8.tk, .all fun us hl => match us, hl with | [_, _], _ => rfl⟩
  have M9 : XM l.prog w K mg base (csOf [C0, C1, C2, C3, C4, C5, C6, C7, C8, C9, C10, C11, C12, C13, C14, C15, C16, C17, C18, C19, C20, C21, C22, C23, C24, C25]) 9 (["number"] : List Str) gBadRow := ⟨_, _, _, _, _, _, E9.ec, E9.ini, E9.ty, ok_BadRow (cs := csOf [C0, C1, C2, C3, C4, C5, C6, C7, C8, C9, C10, C11, C12, C13, C14, C15, C16, C17, C18, C19, C20, C21, C22, C23, C24, C25]) S9 E9.ec rfl y_super y_tuple E9.tk, .all fun us hl => match us, hl with | [_, _], _ => rfl⟩
  have M10 : XM l.prog w K mg base (csOf [C0, C1, C2, C3, C4, C5, C6, C7, C8, C9, C10, C11, C12, C13, C14, C15, C16, C17, C18, C19, C20, C21, C22, C23, C24, C25]) 10 (["number"] : List Str) gNoRule := ⟨_, _, _, _, _, _, E10.ec, E10.ini, E10.ty, ok_NoRule (cs := csOf [C0, C1, C2, C3, C4, C5, C6, C7, C8, C9, C10, C11, C12, C13, C14, C15, C16, C17, C18, C19, C20, C21, C22, C23, C24, C25]) S10 E10.ec rfl y_super y_tuple E10.tk, .all fun us hl => match us, hl with | [_, _], _ => rfl⟩
  have M11 : XM l.prog w K mg base (csOf [C0, C1, C2, C3, C4, C5, C6, C7, C8, C9, C10, C11, C12, C13, C14, C15, C16, C17, C18, C19, C20, C21, C22, C23, C24, C25]) 11 (["number", "place"] : List Str) gNotDerived := ⟨_, _, _, _, _, _, E11.ec, E11.ini, E11.ty, ok_NotDerived (cs := csOf [C0, C1, C2, C3, C4, C5, C6, C7, C8, C9, C10, C11, C12, C13, C14, C15, C16, C17, C18, C19, C20, C21, C22, C23, C24, C25]) S11 E11.ec rfl y_super y_tuple E11.tk, .all fun us hl => match us, hl with | [_, _, _], _ => rfl⟩
  have M12 : XM l.prog w K mg base (csOf [C0, C1, C2, C3, C4, C5, C6, C7, C8, C9, C10, C11, C12, C13, C14, C15, C16, C17, C18, C19, C20, C21, C22, C23, C24, C25]) 12 (["part", "members"] : List Str) gNotKept := ⟨_, _, _, _, _, _, E12.ec, E12.ini, E12.ty, ok_NotKept (cs := csOf [C0, C1, C2, C3, C4, C5, C6, C7, C8, C9, C10, C11, C12, C13, C14, C15, C16, C17, C18, C19, C20, C21, C22, C23, C24, C25]) S12 E12.ec rfl y_super y_tuple E12.tk, .all fun us hl => match us, hl with | [_, _, _], _ => rfl⟩
  have M13 : XM l.prog w K mg base (csOf [C0, C1, C2, C3, C4, C5, C6, C7, C8, C9, C10, C11, C12, C13, C14, C15, C16, C17, C18, C19, C20, C21, C22, C23, C24, C25]) 13 (["place"] : List Str) gBadText := ⟨_, _, _, _, _, _, E13.ec, E13.ini, E13.ty, ok_BadText (cs := csOf [C0, C1, C2, C3, C4, C5, C6, C7, C8, C9, C10, C11, C12, C13, C14, C15, C16, C17, C18, C19, C20, C21, C22, C23, C24, C25]) S13 E13.ec rfl y_super y_tuple E13.tk, .all fun us hl => match us, hl with | [_, _], _ => rfl⟩
  have M14 : XM l.prog w K mg base (csOf [C0, C1, C2, C3, C4, C5, C6, C7, C8, C9, C10, C11, C12, C13, C14, C15, C16, C17, C18, C19, C20, C21, C22, C23, C24, C25]) 14 (["start", "length"] : List Str) gGoesRound := ⟨_, _, _, _, _, _, E14.ec, E14.ini, E14.ty, ok_GoesRound (cs := csOf [C0, C1, C2, C3, C4, C5, C6, C7, C8, C9, C10, C11, C12, C13, C14, C15, C16, C17, C18, C19, C20, C21, C22, C23, C24, C25]) S14 E14.ec rfl y_super y_tuple E14.tk, .all fun us hl => match us, hl with | [_, _, _], _ => rfl⟩
  have M15 : XM l.prog w K mg base (csOf [C0, C1, C2, C3, C4, C5, C6, C7, C8, C9, C10, C11, C12, C13, C14, C15, C16, C17, C18, C19, C20, C21, C22, C23, C24, C25]) 15 (["name"] : List Str) gBadName := ⟨_, _, _, _, _, _, E15.ec, E15.ini, E15.ty, ok_BadName (cs := csOf [C0, C1, C2, C3, C4, C5, C6, C7, C8, C9, C10, C11, C12, C13, C14, C15, C16, C17, C18, C19, C20, C21, C22, C23, C24, C25]) S15 E15.ec rfl y_super y_tuple E15.tk, .all fun us hl => match us, hl with | [_, _], _ => rfl⟩
  have M16 : XM l.prog w K mg base (csOf [C0, C1, C2, C3, C4, C5, C6, C7, C8, C9, C10, C11, C12, C13, C14, C15, C16, C17, C18, C19, C20, C21, C22, C23, C24, C25]) 16 (["name"] : List Str) gBadArity := ⟨_, _, _, _, _, _, E16.ec, E16.ini, E16.ty, ok_BadArity (cs := csOf [C0, C1, C2, C3, C4, C5, C6, C7, C8, C9, C10, C11, C12, C13, C14, C15, C16, C17, C18, C19, C20, C21, C22, C23, C24, C25]) S16 E16.ec rfl y_super y_tuple E16.tk, .all fun us hl => match us, hl with | [_, _], _ => rfl⟩
  have M17 : XM l.prog w K mg base (csOf [C0, C1, C2, C3, C4, C5, C6, C7, C8, C9, C10, C11, C12, C13, C14, C15, C16, C17, C18, C19, C20, C21, C22, C23, C24, C25]) 17 (["name"] : List Str) gDerivedRow := ⟨_, _, _, _, _, _, E17.ec, E17.ini, E17.ty, ok_DerivedRow (cs := csOf [C0, C1, C2, C3, C4, C5, C6, C7, C8, C9, C10, C11, C12, C13, C14, C15, C16, C17, C18, C19, C20, C21, C22, C23, C24, C25]) S17 E17.ec rfl y_super y_tuple E17.tk, .all fun us hl => match us, hl with | [_, _], _ => rfl⟩
  have M18 : XM l.prog w K mg base (csOf [C0, C1, C2, C3, C4, C5, C6, C7, C8, C9, C10, C11, C12, C13, C14, C15, C16, C17, C18, C19, C20, C21, C22, C23, C24, C25]) 18 (["name"] : List Str) gBadThing := ⟨_, _, _, _, _, _, E18.ec, E18.ini, E18.ty, ok_BadThing (cs := csOf [C0, C1, C2, C3, C4, C5, C6, C7, C8, C9, C10, C11, C12, C13, C14, C15, C16, C17, C18, C19, C20, C21, C22, C23, C24, C25]) S18 E18.ec rfl y_super y_tuple E18.tk, .all fun us hl => match us, hl with | [_, _], _ => rfl⟩
  have M19 : XM l.prog w K mg base (csOf [C0, C1, C2, C3, C4, C5, C6, C7, C8, C9, C10, C11, C12, C13, C14, C15, C16, C17, C18, C19, C20, C21, C22, C23, C24, C25]) 19 (["name", "filled"] : List Str) gTwiceTold := ⟨_, _, _, _, _, _, E19.ec, E19.ini, E19.ty, ok_TwiceTold (cs := csOf [C0, C1, C2, C3, C4, C5, C6, C7, C8, C9, C10, C11, C12, C13, C14, C15, C16, C17, C18, C19, C20, C21, C22, C23, C24, C25]) S19 E19.ec rfl y_super y_tuple E19.tk, .all fun us hl => match us, hl with | [_, _, _], _ => rfl⟩
  have M20 : XM l.prog w K mg base (csOf [C0, C1, C2, C3, C4, C5, C6, C7, C8, C9, C10, C11, C12, C13, C14, C15, C16, C17, C18, C19, C20, C21, C22, C23, C24, C25]) 20 (["name"] : List Str) gUnknownWorth := ⟨_, _, _, _, _, _, E20.ec, E20.ini, E20.ty, ok_UnknownWorth (cs := csOf [C0, C1, C2, C3, C4, C5, C6, C7, C8, C9, C10, C11, C12, C13, C14, C15, C16, C17, C18, C19, C20, C21, C22, C23, C24, C25]) S20 E20.ec rfl y_super y_tuple E20.tk, .all fun us hl => match us, hl with | [_, _], _ => rfl⟩
  have M21 : XM l.prog w K mg base (csOf [C0, C1, C2, C3, C4, C5, C6, C7, C8, C9, C10, C11, C12, C13, C14, C15, C16, C17, C18, C19, C20, C21, C22, C23, C24, C25]) 21 (["name"] : List Str) gUnknownName := ⟨_, _, _, _, _, _, E21.ec, E21.ini, E21.ty, ok_UnknownName (cs := csOf [C0, C1, C2, C3, C4, C5, C6, C7, C8, C9, C10, C11, C12, C13, C14, C15, C16, C17, C18, C19, C20, C21, C22, C23, C24, C25]) S21 E21.ec rfl y_super y_tuple E21.tk, .all fun us hl => match us, hl with | [_, _], _ => rfl⟩
  have M22 : XM l.prog w K mg base (csOf [C0, C1, C2, C3, C4, C5, C6, C7, C8, C9, C10, C11, C12, C13, C14, C15, C16, C17, C18, C19, C20, C21, C22, C23, C24, C25]) 22 (["name"] : List Str) gUnknownThing := ⟨_, _, _, _, _, _, E22.ec, E22.ini, E22.ty, ok_UnknownThing (cs := csOf [C0, C1, C2, C3, C4, C5, C6, C7, C8, C9, C10, C11, C12, C13, C14, C15, C16, C17, C18, C19, C20, C21, C22, C23, C24, C25]) S22 E22.ec rfl y_super y_tuple E22.tk, .all fun us hl => match us, hl with | [_, _], _ => rfl⟩
  have M23 : XM l.prog w K mg base (csOf [C0, C1, C2, C3, C4, C5, C6, C7, C8, C9, C10, C11, C12, C13, C14, C15, C16, C17, C18, C19, C20, C21, C22, C23, C24, C25]) 23 (["name"] : List Str) gNotTold := ⟨_, _, _, _, _, _, E23.ec, E23.ini, E23.ty, ok_NotTold (cs := csOf [C0, C1, C2, C3, C4, C5, C6, C7, C8, C9, C10, C11, C12, C13, C14, C15, C16, C17, C18, C19, C20, C21, C22, C23, C24, C25]) S23 E23.ec rfl y_super y_tuple E23.tk, .all fun us hl => match us, hl with | [_, _], _ => rfl⟩
  have M24 : XM l.prog w K mg base (csOf [C0, C1, C2, C3, C4, C5, C6, C7, C8, C9, C10, C11, C12, C13, C14, C15, C16, C17, C18, C19, C20, C21, C22, C23, C24, C25]) 24 (["fact"] : List Str) gUnknownFact := ⟨_, _, _, _, _, _, E24.ec, E24.ini, E24.ty, ok_UnknownFact (cs := csOf [C0, C1, C2, C3, C4, C5, C6, C7, C8, C9, C10, C11, C12, C13, C14, C15, C16, C17, C18, C19, C20, C21, C22, C23, C24, C25]) S24 E24.ec rfl y_super y_tuple E24.tk, .all fun us hl => match us, hl with | [_, _], _ => rfl⟩
  have M25 : XM l.prog w K mg base (csOf [C0, C1, C2, C3, C4, C5, C6, C7, C8, C9, C10, C11, C12, C13, C14, C15, C16, C17, C18, C19, C20, C21, C22, C23, C24, C25]) 25 (["name", "filled"] : List Str) gNoRow := ⟨_, _, _, _, _, _, E25.ec, E25.ini, E25.ty, ok_NoRow (cs := csOf [C0, C1, C2, C3, C4, C5, C6, C7, C8, C9, C10, C11, C12, C13, C14, C15, C16, C17, C18, C19, C20, C21, C22, C23, C24, C25]) S25 E25.ec rfl y_super y_tuple E25.tk, .all fun us hl => match us, hl with | [_, _, _], _ => rfl⟩
  have T : XAll l.prog w K mg base (csOf [C0, C1, C2, C3, C4, C5, C6, C7, C8, C9, C10, C11, C12, C13, C14, C15, C16, C17, C18, C19, C20, C21, C22, C23, C24, C25]) := ⟨M0, PySem.W.mg_of X G aC0, M1, PySem.W.mg_of X G aC1, M2, PySem.W.mg_of X G aC2, M3, PySem.W.mg_of X G aC3, M4, PySem.W.mg_of X G aC4, M5, PySem.W.mg_of X G aC5, M6, PySem.W.mg_of X G aC6, M7, PySem.W.mg_of X G aC7, M8, PySem.W.mg_of X G aC8, M9, PySem.W.mg_of X G aC9, M10, PySem.W.mg_of X G aC10, M11, PySem.W.mg_of X G aC11, M12, PySem.W.mg_of X G aC12, M13, PySem.W.mg_of X G aC13, M14, PySem.W.mg_of X G aC14, M15, PySem.W.mg_of X G aC15, M16, PySem.W.mg_of X G aC16, M17, PySem.W.mg_of X G aC17, M18, PySem.W.mg_of X G aC18, M19, PySem.W.mg_of X G aC19, M20, PySem.W.mg_of X G aC20, M21, PySem.W.mg_of X G aC21, M22, PySem.W.mg_of X G aC22, M23, PySem.W.mg_of X G aC23, M24, PySem.W.mg_of X G aC24, M25, PySem.W.mg_of X G aC25⟩
  have XatNumber : XAt K (csOf [C0, C1, C2, C3, C4, C5, C6, C7, C8, C9, C10, C11, C12, C13, C14, C15, C16, C17, C18, C19, C20, C21, C22, C23, C24, C25]) "number" atNumber := ⟨fun c k h => by
    unfold atNumber at h
    split at h
    · cases h; exact ⟨E8.xf, E8.fn "number" (by simp), rfl⟩
    · cases h; exact ⟨E9.xf, E9.fn "number" (by simp), rfl⟩
    · cases h; exact ⟨E10.xf, E10.fn "number" (by simp), rfl⟩
    · cases h; exact ⟨E11.xf, E11.fn "number" (by simp), rfl⟩
    · cases h⟩
  have XatPlace : XAt K (csOf [C0, C1, C2, C3, C4, C5, C6, C7, C8, C9, C10, C11, C12, C13, C14, C15, C16, C17, C18, C19, C20, C21, C22, C23, C24, C25]) "place" atPlace := ⟨fun c k h => by
    unfold atPlace at h
    split at h
    · cases h; exact ⟨E11.xf, E11.fn "place" (by simp), rfl⟩
    · cases h; exact ⟨E13.xf, E13.fn "place" (by simp), rfl⟩
    · cases h⟩
  have XatPart : XAt K (csOf [C0, C1, C2, C3, C4, C5, C6, C7, C8, C9, C10, C11, C12, C13, C14, C15, C16, C17, C18, C19, C20, C21, C22, C23, C24, C25]) "part" atPart := ⟨fun c k h => by
    unfold atPart at h
    split at h
    · cases h; exact ⟨E12.xf, E12.fn "part" (by simp), rfl⟩
    · cases h⟩
  have XatMembers : XAt K (csOf [C0, C1, C2, C3, C4, C5, C6, C7, C8, C9, C10, C11, C12, C13, C14, C15, C16, C17, C18, C19, C20, C21, C22, C23, C24, C25]) "members" atMembers := ⟨fun c k h => by
    unfold atMembers at h
    split at h
    · cases h; exact ⟨E12.xf, E12.fn "members" (by simp), rfl⟩
    · cases h⟩
  have XatStart : XAt K (csOf [C0, C1, C2, C3, C4, C5, C6, C7, C8, C9, C10, C11, C12, C13, C14, C15, C16, C17, C18, C19, C20, C21, C22, C23, C24, C25]) "start" atStart := ⟨fun c k h => by
    unfold atStart at h
    split at h
    · cases h; exact ⟨E14.xf, E14.fn "start" (by simp), rfl⟩
    · cases h⟩
  have XatLength : XAt K (csOf [C0, C1, C2, C3, C4, C5, C6, C7, C8, C9, C10, C11, C12, C13, C14, C15, C16, C17, C18, C19, C20, C21, C22, C23, C24, C25]) "length" atLength := ⟨fun c k h => by
    unfold atLength at h
    split at h
    · cases h; exact ⟨E14.xf, E14.fn "length" (by simp), rfl⟩
    · cases h⟩
  have XatName : XAt K (csOf [C0, C1, C2, C3, C4, C5, C6, C7, C8, C9, C10, C11, C12, C13, C14, C15, C16, C17, C18, C19, C20, C21, C22, C23, C24, C25]) "name" atName := ⟨fun c k h => by
    unfold atName at h
    split at h
    · cases h; exact ⟨E15.xf, E15.fn "name" (by simp), rfl⟩
    · cases h; exact ⟨E16.xf, E16.fn "name" (by simp), rfl⟩
    · cases h; exact ⟨E17.xf, E17.fn "name" (by simp), rfl⟩
    · cases h; exact ⟨E18.xf, E18.fn "name" (by simp), rfl⟩
    · cases h; exact ⟨E19.xf, E19.fn "name" (by simp), rfl⟩
    · cases h; exact ⟨E20.xf, E20.fn "name" (by simp), rfl⟩
    · cases h; exact ⟨E21.xf, E21.fn "name" (by simp), rfl⟩
    · cases h; exact ⟨E22.xf, E22.fn "name" (by simp), rfl⟩
    · cases h; exact ⟨E23.xf, E23.fn "name" (by simp), rfl⟩
    · cases h; exact ⟨E25.xf, E25.fn "name" (by simp), rfl⟩
    · cases h⟩
  have XatFilled : XAt K (csOf [C0, C1, C2, C3, C4, C5, C6, C7, C8, C9, C10, C11, C12, C13, C14, C15, C16, C17, C18, C19, C20, C21, C22, C23, C24, C25]) "filled" atFilled := ⟨fun c k h => by
    unfold atFilled at h
    split at h
    · cases h; exact ⟨E19.xf, E19.fn "filled" (by simp), rfl⟩
    · cases h; exact ⟨E25.xf, E25.fn "filled" (by simp), rfl⟩
    · cases h⟩
  have XatFact : XAt K (csOf [C0, C1, C2, C3, C4, C5, C6, C7, C8, C9, C10, C11, C12, C13, C14, C15, C16, C17, C18, C19, C20, C21, C22, C23, C24, C25]) "fact" atFact := ⟨fun c k h => by
    unfold atFact at h
    split at h
    · cases h; exact ⟨E24.xf, E24.fn "fact" (by simp), rfl⟩
    · cases h⟩
  have GS := ok_source (P := l.prog) (w := w) (base := base) D0 y_len y_int y_abs y_range
  have GP := ok_pick (P := l.prog) (w := w) (base := base) (cs := csOf [C0, C1, C2, C3, C4, C5, C6, C7, C8, C9, C10, C11, C12, C13, C14, C15, C16, C17, C18, C19, C20, C21, C22, C23, C24, C25]) D1 y_len y_int
  have GW := ok_word (P := l.prog) (w := w) (base := base) (cs := csOf [C0, C1, C2, C3, C4, C5, C6, C7, C8, C9, C10, C11, C12, C13, C14, C15, C16, C17, C18, C19, C20, C21, C22, C23, C24, C25]) D2 GP (PySem.W.mg_of X G a1) k1 b1 y_str
  have GC := ok_cls (P := l.prog) (w := w) (base := base) D3 T IA y_isinstance y_len y_range
  have GPl := ok_Plain D4 T
  have GN := ok_Numb D5 T
  have GM := ok_Named D6 T
  have GL := ok_Lost D7 T
  exact ok_law D8 T GS (PySem.W.mg_of X G a0) k0 b0 GP (PySem.W.mg_of X G a1) k1 b1 GW (PySem.W.mg_of X G a2) k2 b2 GC (PySem.W.mg_of X G a3) k3 b3 GPl (PySem.W.mg_of X G a4) k4 b4 GN (PySem.W.mg_of X G a5) k5 b5 GM (PySem.W.mg_of X G a6) k6 b6 GL (PySem.W.mg_of X G a7) k7 b7
    y_range y_tuple y_list y_isinstance y_ValueError y_LookupError y_KeyError y_IndexError (PySem.W.mg_of X G aS) (PySem.W.mg_of X G aN) (isT_ok qVE hx) (isT_ok qSE hx) (isT_ok qLE hx) (isT_ok qNM hx) (isT_ok qKE hx) (isT_ok qIE hx)
    XatNumber XatPlace XatPart XatMembers XatStart XatLength XatName XatFilled XatFact
theorem walk {l : PySem.W.OpenLaw} {q : Program} {loose : List Str} {XP : (Str → Option Value) → Heap → Prop} {YP : World → Heap → Prop} {d : DefRec} {K : Params → PySem.W.Frag} (hn : l.most = some 63) (hdf : d.params.defaults = [])
    (hY : ∀ (w : World) (h : Heap), YP w h → (K w.params).In h)
    (F : ∀ (w : World) (mg : Str → Option Value) (fa : Addr) (h : Heap), (K w.params).In h → h.Ns mainGlobals mg → mg d.name = some (.ref fa) →
      ∃ fd : FuncData, (∀ (s : Shared) (u : Value), BindsTo s fd ⟨[u], []⟩ [("_law_script", u)]) ∧ ∀ base : Heap, (K w.params).In base → base.Ns mainGlobals mg → FnOk l.prog w (K w.params) mg base (L2.CX l.prog w) 4 fa fd ["_law_script"] (spLaw (K w.params))) :
    PySem.W.WalkO q loose XP YP l.row.toRowW d [] (fun f vs => PySem.call f vs) :=
  L2.walk_of (n := 63) (k := 4) (x := "_law_script") (CX := fun w => L2.CX l.prog w) (sp := fun w => spLaw (K w.params)) hn (by decide) hdf ⟨rfl, by decide, by decide⟩ hY F (fun _ _ a ns hl _ hS => ⟨a, ns, rfl, hS, by omega, fun _ => rfl⟩) fun _ _ _ _ _ z => by
    obtain ⟨a, B, H', cls, d, _, _, _, _, _, _, _, z⟩ := z
    exact z
end HD
open PySem PySem.W PyProof.Rows
set_option maxRecDepth 100000 in
set_option maxHeartbeats 0 in
theorem PySem.Challenge.cw_settlescale_k91_errors_holds : PySem.Challenge.rw_settlescale_k91_errors.Holds := by
  w_on; o_law; k_head; (case hw => w_witness2)
  k_fill
  refine HD.walk (l := PySem.Challenge.rw_settlescale_k91_errors) rfl rfl (fun w h Y => PySem.W.kIn_of Y) ?F
  case F =>
    intro w mg fa h KX G hmg
    refine' HD.all_mk KX G hmg ?aC0 ?aC1 ?aC2 ?aC3 ?aC4 ?aC5 ?aC6 ?aC7 ?aC8 ?aC9 ?aC10 ?aC11 ?aC12 ?aC13 ?aC14 ?aC15 ?aC16 ?aC17 ?aC18 ?aC19 ?aC20 ?aC21 ?aC22 ?aC23 ?aC24 ?aC25 ?aS ?aN ?F0 ?F1 ?F2 ?F3 ?F4 ?F5 ?F6 ?F7 ?F8 ?F9 ?F10 ?F11 ?F12 ?F13 ?F14 ?F15 ?F16 ?F17 ?F18 ?F19 ?F20 ?F21 ?F22 ?F23 ?F24 ?F25 ?a0 ?l0 ?c0 ?k0 ?a1 ?l1 ?c1 ?k1 ?a2 ?l2 ?c2 ?k2 ?a3 ?l3 ?c3 ?k3 ?a4 ?l4 ?c4 ?k4 ?a5 ?l5 ?c5 ?k5 ?a6 ?l6 ?c6 ?k6 ?a7 ?l7 ?c7 ?k7 ?a8 ?l8 ?c8 ?k8 ?z_super ?z_tuple ?z_len ?z_int ?z_abs ?z_range ?z_str ?z_list ?z_isinstance ?z_ValueError ?z_LookupError ?z_KeyError ?z_IndexError ?qAll ?qVE ?qSE ?qLE ?qNM ?qKE ?qIE
    (case aC0 => k_is)
    (case aC1 => k_is)
    (case aC2 => k_is)
    (case aC3 => k_is)
    (case aC4 => k_is)
    (case aC5 => k_is)
    (case aC6 => k_is)
    (case aC7 => k_is)
    (case aC8 => k_is)
    (case aC9 => k_is)
    (case aC10 => k_is)
    (case aC11 => k_is)
    (case aC12 => k_is)
    (case aC13 => k_is)
    (case aC14 => k_is)
    (case aC15 => k_is)
    (case aC16 => k_is)
    (case aC17 => k_is)
    (case aC18 => k_is)
    (case aC19 => k_is)
    (case aC20 => k_is)
    (case aC21 => k_is)
    (case aC22 => k_is)
    (case aC23 => k_is)
    (case aC24 => k_is)
    (case aC25 => k_is)
    (case aS => k_is)
    (case aN => k_is)
    (case F0 => refine' HD.cf_mk HD.eb_VE ?i ?l ?c ?d ?e ?v ?hf ?tp ?x; (case i => k_is); (case l => k_is); (case c => k_is); (case d => k_is); (case e => k_is); (case v => rfl); (case hf => decide +kernel); (case tp => decide +kernel); (case x => kernel_rfl))
    (case F1 => refine' HD.cf_mk HD.eb_VE ?i ?l ?c ?d ?e ?v ?hf ?tp ?x; (case i => k_is); (case l => k_is); (case c => k_is); (case d => k_is); (case e => k_is); (case v => rfl); (case hf => decide +kernel); (case tp => decide +kernel); (case x => kernel_rfl))
    (case F2 => refine' HD.cf_mk HD.eb_VE ?i ?l ?c ?d ?e ?v ?hf ?tp ?x; (case i => k_is); (case l => k_is); (case c => k_is); (case d => k_is); (case e => k_is); (case v => rfl); (case hf => decide +kernel); (case tp => decide +kernel); (case x => kernel_rfl))
    (case F3 => refine' HD.cf_mk HD.eb_VE ?i ?l ?c ?d ?e ?v ?hf ?tp ?x; (case i => k_is); (case l => k_is); (case c => k_is); (case d => k_is); (case e => k_is); (case v => rfl); (case hf => decide +kernel); (case tp => decide +kernel); (case x => kernel_rfl))
    (case F4 => refine' HD.cf_mk HD.eb_VE ?i ?l ?c ?d ?e ?v ?hf ?tp ?x; (case i => k_is); (case l => k_is); (case c => k_is); (case d => k_is); (case e => k_is); (case v => rfl); (case hf => decide +kernel); (case tp => decide +kernel); (case x => kernel_rfl))
    (case F5 => refine' HD.cf_mk HD.eb_VE ?i ?l ?c ?d ?e ?v ?hf ?tp ?x; (case i => k_is); (case l => k_is); (case c => k_is); (case d => k_is); (case e => k_is); (case v => rfl); (case hf => decide +kernel); (case tp => decide +kernel); (case x => kernel_rfl))
    (case F6 => refine' HD.cf_mk HD.eb_VE ?i ?l ?c ?d ?e ?v ?hf ?tp ?x; (case i => k_is); (case l => k_is); (case c => k_is); (case d => k_is); (case e => k_is); (case v => rfl); (case hf => decide +kernel); (case tp => decide +kernel); (case x => kernel_rfl))
    (case F7 => refine' HD.cf_mk HD.eb_VE ?i ?l ?c ?d ?e ?v ?hf ?tp ?x; (case i => k_is); (case l => k_is); (case c => k_is); (case d => k_is); (case e => k_is); (case v => rfl); (case hf => decide +kernel); (case tp => decide +kernel); (case x => kernel_rfl))
    (case F8 => refine' HD.cf_mk HD.eb_VE ?i ?l ?c ?d ?e ?v ?hf ?tp ?x; (case i => k_is); (case l => k_is); (case c => k_is); (case d => k_is); (case e => k_is); (case v => rfl); (case hf => decide +kernel); (case tp => decide +kernel); (case x => kernel_rfl))
    (case F9 => refine' HD.cf_mk HD.eb_VE ?i ?l ?c ?d ?e ?v ?hf ?tp ?x; (case i => k_is); (case l => k_is); (case c => k_is); (case d => k_is); (case e => k_is); (case v => rfl); (case hf => decide +kernel); (case tp => decide +kernel); (case x => kernel_rfl))
    (case F10 => refine' HD.cf_mk HD.eb_VE ?i ?l ?c ?d ?e ?v ?hf ?tp ?x; (case i => k_is); (case l => k_is); (case c => k_is); (case d => k_is); (case e => k_is); (case v => rfl); (case hf => decide +kernel); (case tp => decide +kernel); (case x => kernel_rfl))
    (case F11 => refine' HD.cf_mk HD.eb_VE ?i ?l ?c ?d ?e ?v ?hf ?tp ?x; (case i => k_is); (case l => k_is); (case c => k_is); (case d => k_is); (case e => k_is); (case v => rfl); (case hf => decide +kernel); (case tp => decide +kernel); (case x => kernel_rfl))
    (case F12 => refine' HD.cf_mk HD.eb_VE ?i ?l ?c ?d ?e ?v ?hf ?tp ?x; (case i => k_is); (case l => k_is); (case c => k_is); (case d => k_is); (case e => k_is); (case v => rfl); (case hf => decide +kernel); (case tp => decide +kernel); (case x => kernel_rfl))
    (case F13 => refine' HD.cf_mk HD.eb_VE ?i ?l ?c ?d ?e ?v ?hf ?tp ?x; (case i => k_is); (case l => k_is); (case c => k_is); (case d => k_is); (case e => k_is); (case v => rfl); (case hf => decide +kernel); (case tp => decide +kernel); (case x => kernel_rfl))
    (case F14 => refine' HD.cf_mk HD.eb_VE ?i ?l ?c ?d ?e ?v ?hf ?tp ?x; (case i => k_is); (case l => k_is); (case c => k_is); (case d => k_is); (case e => k_is); (case v => rfl); (case hf => decide +kernel); (case tp => decide +kernel); (case x => kernel_rfl))
    (case F15 => refine' HD.cf_mk HD.eb_VE ?i ?l ?c ?d ?e ?v ?hf ?tp ?x; (case i => k_is); (case l => k_is); (case c => k_is); (case d => k_is); (case e => k_is); (case v => rfl); (case hf => decide +kernel); (case tp => decide +kernel); (case x => kernel_rfl))
    (case F16 => refine' HD.cf_mk HD.eb_VE ?i ?l ?c ?d ?e ?v ?hf ?tp ?x; (case i => k_is); (case l => k_is); (case c => k_is); (case d => k_is); (case e => k_is); (case v => rfl); (case hf => decide +kernel); (case tp => decide +kernel); (case x => kernel_rfl))
    (case F17 => refine' HD.cf_mk HD.eb_VE ?i ?l ?c ?d ?e ?v ?hf ?tp ?x; (case i => k_is); (case l => k_is); (case c => k_is); (case d => k_is); (case e => k_is); (case v => rfl); (case hf => decide +kernel); (case tp => decide +kernel); (case x => kernel_rfl))
    (case F18 => refine' HD.cf_mk HD.eb_VE ?i ?l ?c ?d ?e ?v ?hf ?tp ?x; (case i => k_is); (case l => k_is); (case c => k_is); (case d => k_is); (case e => k_is); (case v => rfl); (case hf => decide +kernel); (case tp => decide +kernel); (case x => kernel_rfl))
    (case F19 => refine' HD.cf_mk HD.eb_VE ?i ?l ?c ?d ?e ?v ?hf ?tp ?x; (case i => k_is); (case l => k_is); (case c => k_is); (case d => k_is); (case e => k_is); (case v => rfl); (case hf => decide +kernel); (case tp => decide +kernel); (case x => kernel_rfl))
    (case F20 => refine' HD.cf_mk HD.eb_LE ?i ?l ?c ?d ?e ?v ?hf ?tp ?x; (case i => k_is); (case l => k_is); (case c => k_is); (case d => k_is); (case e => k_is); (case v => rfl); (case hf => decide +kernel); (case tp => decide +kernel); (case x => kernel_rfl))
    (case F21 => refine' HD.cf_mk HD.eb_LE ?i ?l ?c ?d ?e ?v ?hf ?tp ?x; (case i => k_is); (case l => k_is); (case c => k_is); (case d => k_is); (case e => k_is); (case v => rfl); (case hf => decide +kernel); (case tp => decide +kernel); (case x => kernel_rfl))
    (case F22 => refine' HD.cf_mk HD.eb_LE ?i ?l ?c ?d ?e ?v ?hf ?tp ?x; (case i => k_is); (case l => k_is); (case c => k_is); (case d => k_is); (case e => k_is); (case v => rfl); (case hf => decide +kernel); (case tp => decide +kernel); (case x => kernel_rfl))
    (case F23 => refine' HD.cf_mk HD.eb_LE ?i ?l ?c ?d ?e ?v ?hf ?tp ?x; (case i => k_is); (case l => k_is); (case c => k_is); (case d => k_is); (case e => k_is); (case v => rfl); (case hf => decide +kernel); (case tp => decide +kernel); (case x => kernel_rfl))
    (case F24 => refine' HD.cf_mk HD.eb_LE ?i ?l ?c ?d ?e ?v ?hf ?tp ?x; (case i => k_is); (case l => k_is); (case c => k_is); (case d => k_is); (case e => k_is); (case v => rfl); (case hf => decide +kernel); (case tp => decide +kernel); (case x => kernel_rfl))
    (case F25 => refine' HD.cf_mk HD.eb_LE ?i ?l ?c ?d ?e ?v ?hf ?tp ?x; (case i => k_is); (case l => k_is); (case c => k_is); (case d => k_is); (case e => k_is); (case v => rfl); (case hf => decide +kernel); (case tp => decide +kernel); (case x => kernel_rfl))
    (case a0 => k_is)
    (case l0 => k_is)
    (case c0 => k_is)
    (case k0 => k_is)
    (case a1 => k_is)
    (case l1 => k_is)
    (case c1 => k_is)
    (case k1 => k_is)
    (case a2 => k_is)
    (case l2 => k_is)
    (case c2 => k_is)
    (case k2 => k_is)
    (case a3 => k_is)
    (case l3 => k_is)
    (case c3 => k_is)
    (case k3 => k_is)
    (case a4 => k_is)
    (case l4 => k_is)
    (case c4 => k_is)
    (case k4 => k_is)
    (case a5 => k_is)
    (case l5 => k_is)
    (case c5 => k_is)
    (case k5 => k_is)
    (case a6 => k_is)
    (case l6 => k_is)
    (case c6 => k_is)
    (case k6 => k_is)
    (case a7 => k_is)
    (case l7 => k_is)
    (case c7 => k_is)
    (case k7 => k_is)
    (case a8 => k_is)
    (case l8 => k_is)
    (case c8 => k_is)
    (case k8 => k_is)
    (case z_super => k_is)
    (case z_tuple => k_is)
    (case z_len => k_is)
    (case z_int => k_is)
    (case z_abs => k_is)
    (case z_range => k_is)
    (case z_str => k_is)
    (case z_list => k_is)
    (case z_isinstance => k_is)
    (case z_ValueError => k_is)
    (case z_LookupError => k_is)
    (case z_KeyError => k_is)
    (case z_IndexError => k_is)
    (case qAll => kernel_rfl)
    (case qVE => kernel_rfl)
    (case qSE => kernel_rfl)
    (case qLE => kernel_rfl)
    (case qNM => kernel_rfl)
    (case qKE => kernel_rfl)
    (case qIE => kernel_rfl)
#print axioms PySem.Challenge.cw_settlescale_k91_errors_holds
