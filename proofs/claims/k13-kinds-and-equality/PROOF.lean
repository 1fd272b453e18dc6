import PyProof.Rows.All
import Wide.All
import OpenK.AllK
import Wide.FinOn
import HandS.ForMost
import HandS.Walk
import HandS.Flow
import HandS.IsInst
import HandS.StrMore
import HandS.TupLe
import HandS.Style
import HandS.TupAny
import HandS.TupMul
import HandS.Deep
import HandS.ForExc
import KE.GoesNew
import KE.GoesMore
import KE.GoesEnum
import HandS.Small
import PyProof.Rows.StrIntSpec
import HandS.FStr
import HandS.Replace
import HandS.SortInts
import HandS.More
import HandS.Conv
import KE.KExcSuper
import KE.KSuper
import KE.KTryMore
import HandS.ExcField
import HandS.Property
import KE.KExcIs
import HandS.Defaults
import HandS.Star
import HandS.ExcIs
import PyProof.InstNe
import HandS.OwnEq
import PyProof.EnumMake
import KE.KRevSl
import PySem.Challenge.RW_cliffordworks_k13_kinds_and_equality
import HandS.WordsExc
import PyProof.InstStoreFacts
import PyProof.ExcBaseAll.ValueError
set_option Elab.async false
set_option linter.all false
set_option maxRecDepth 100000
set_option maxHeartbeats 4000000
/-! The tree layer: values without addresses. -/
namespace TL
open PySem L2
/-- a Python value as a tree; mach: the draw machine -/
inductive T where
  | non | bl (b : Bool) | int (i : Int) | str (x : Str) | ty (n : String) | mach | scr (ns : List Int) | cst (a : Addr)
  | lst (xs : List T) | tup (xs : List T) | dct (kvs : List (Key × T)) | obj (n : Str) (fs : List (Str × T)) | exc (n : Str) (fs : List (Str × T)) | cls (n : Str)
/-- the classes of the program by their names -/
class CN where
  at_ : Str → Option Addr
/-- an exception object, kept behind its suite -/
def xob (a C dd : Addr) : HO := .ext fun h => ∃ (oe : Obj) (vs : Array Value), h.get? a = some oe ∧ Zc (.ref C) (some dd) oe ∧ oe.data = .fields vs
section
variable [CN]
mutual
def Rep (K : PySem.W.Frag) (am : Option Addr) (H : Hp) : T → V → Prop
  | .non, v => v = .non
  | .bl b, v => v = .bl b
  | .int i, v => v = .int i
  | .str x, v => v = .str x
  | .ty n, v => v = .ty n
  | .mach, v => ∃ a, am = some a ∧ v = .ref a
  | .scr ns, v => ∃ a, v = .ref a ∧ SqL K H a (ns.map V.int)
  | .cst a, v => v = .ref a
  | .lst ts, v => ∃ a vs, v = .ref a ∧ H a = some (.lst vs) ∧ Reps K am H ts vs
  | .tup ts, v => ∃ a vs, v = .ref a ∧ SqT K H a vs ∧ Reps K am H ts vs
  | .dct kts, v => ∃ a kvs, v = .ref a ∧ Rd H a (.dK kvs) ∧ RepK K am H kts kvs
  | .obj c fts, v => ∃ a C dx fvs, v = .ref a ∧ CN.at_ c = some C ∧ H a = some (.ins C dx fvs) ∧ RepF K am H fts fvs
  | .exc c fts, v => ∃ a C dd fvs, v = .ref a ∧ CN.at_ c = some C ∧ H a = some (xob a C dd) ∧ H dd = some (.xd fvs) ∧ RepF K am H fts fvs
  | .cls c, v => ∃ C, CN.at_ c = some C ∧ v = .ref C
def Reps (K : PySem.W.Frag) (am : Option Addr) (H : Hp) : List T → List V → Prop
  | [], vs => vs = []
  | t :: ts, vs => ∃ v r, vs = v :: r ∧ Rep K am H t v ∧ Reps K am H ts r
def RepK (K : PySem.W.Frag) (am : Option Addr) (H : Hp) : List (Key × T) → List (Key × V) → Prop
  | [], vs => vs = []
  | (k, t) :: ts, vs => ∃ v r, vs = (k, v) :: r ∧ Rep K am H t v ∧ RepK K am H ts r
def RepF (K : PySem.W.Frag) (am : Option Addr) (H : Hp) : List (Str × T) → List (Str × V) → Prop
  | [], vs => vs = []
  | (k, t) :: ts, vs => ∃ v r, vs = (k, v) :: r ∧ Rep K am H t v ∧ RepF K am H ts r
end
theorem same_sqL {K : PySem.W.Frag} {H H' : Hp} {a : Addr} {xs : List V} (e : Same H H') (h : SqL K H a xs) : SqL K H' a xs := e.seq h
theorem same_rd {H H' : Hp} {a : Addr} {u : HO} (e : Same H H') (h : Rd H a u) : Rd H' a u := by
  rcases h with h | ⟨o, h⟩
  · exact Or.inl (e a _ h)
  · exact Or.inr ⟨o, e a _ h⟩
theorem same_sqT {K : PySem.W.Frag} {H H' : Hp} {a : Addr} {xs : List V} (e : Same H H') (h : SqT K H a xs) : SqT K H' a xs := by
  rcases h with h | h
  · exact Or.inl (same_rd e h)
  · exact Or.inr h
mutual
theorem Rep.mono {K : PySem.W.Frag} {am : Option Addr} {H H' : Hp} (e : Same H H') : ∀ (t : T) (v : V), Rep K am H t v → Rep K am H' t v
  | .non, v, h => by simp only [Rep] at h ⊢; exact h
  | .bl b, v, h => by simp only [Rep] at h ⊢; exact h
  | .int i, v, h => by simp only [Rep] at h ⊢; exact h
  | .str x, v, h => by simp only [Rep] at h ⊢; exact h
  | .ty n, v, h => by simp only [Rep] at h ⊢; exact h
  | .cst n, v, h => by simp only [Rep] at h ⊢; exact h
  | .mach, v, h => by simp only [Rep] at h ⊢; exact h
  | .scr ns, v, h => by
    simp only [Rep] at h ⊢
    obtain ⟨a, e1, e2⟩ := h
    exact ⟨a, e1, same_sqL e e2⟩
  | .lst ts, v, h => by
    simp only [Rep] at h ⊢
    obtain ⟨a, vs, e1, e2, e3⟩ := h
    exact ⟨a, vs, e1, e _ _ e2, Reps.mono e ts vs e3⟩
  | .tup ts, v, h => by
    simp only [Rep] at h ⊢
    obtain ⟨a, vs, e1, e2, e3⟩ := h
    exact ⟨a, vs, e1, same_sqT e e2, Reps.mono e ts vs e3⟩
  | .dct kts, v, h => by
    simp only [Rep] at h ⊢
    obtain ⟨a, vs, e1, e2, e3⟩ := h
    exact ⟨a, vs, e1, same_rd e e2, RepK.mono e kts vs e3⟩
  | .obj c fts, v, h => by
    simp only [Rep] at h ⊢
    obtain ⟨a, C, dx, vs, e1, e0, e2, e3⟩ := h
    exact ⟨a, C, dx, vs, e1, e0, e _ _ e2, RepF.mono e fts vs e3⟩
  | .exc c fts, v, h => by
    simp only [Rep] at h ⊢
    obtain ⟨a, C, dd, vs, e1, e0, e2, e4, e3⟩ := h
    exact ⟨a, C, dd, vs, e1, e0, e _ _ e2, e _ _ e4, RepF.mono e fts vs e3⟩
  | .cls c, v, h => by simp only [Rep] at h ⊢; exact h
theorem Reps.mono {K : PySem.W.Frag} {am : Option Addr} {H H' : Hp} (e : Same H H') : ∀ (t : List T) (v : List V), Reps K am H t v → Reps K am H' t v
  | [], v, h => by simp only [Reps] at h ⊢; exact h
  | t :: ts, v, h => by
    simp only [Reps] at h ⊢
    obtain ⟨a, vs, e1, e2, e3⟩ := h
    exact ⟨a, vs, e1, Rep.mono e t a e2, Reps.mono e ts vs e3⟩
theorem RepK.mono {K : PySem.W.Frag} {am : Option Addr} {H H' : Hp} (e : Same H H') : ∀ (t : List (Key × T)) (v : List (Key × V)), RepK K am H t v → RepK K am H' t v
  | [], v, h => by simp only [RepK] at h ⊢; exact h
  | (k, t) :: ts, v, h => by
    simp only [RepK] at h ⊢
    obtain ⟨a, vs, e1, e2, e3⟩ := h
    exact ⟨a, vs, e1, Rep.mono e t a e2, RepK.mono e ts vs e3⟩
theorem RepF.mono {K : PySem.W.Frag} {am : Option Addr} {H H' : Hp} (e : Same H H') : ∀ (t : List (Str × T)) (v : List (Str × V)), RepF K am H t v → RepF K am H' t v
  | [], v, h => by simp only [RepF] at h ⊢; exact h
  | (k, t) :: ts, v, h => by
    simp only [RepF] at h ⊢
    obtain ⟨a, vs, e1, e2, e3⟩ := h
    exact ⟨a, vs, e1, Rep.mono e t a e2, RepF.mono e ts vs e3⟩
end
end
structure Exn where
  cls : Str
  fs : List (Str × T)
abbrev XE := Exn → Nat → Prop
/-- the wish about exceptions: the context's, the tree's -/
class Xw where
  W : WX
  RE : XE
abbrev noX : XE := fun _ _ => False
/-- no exception -/
abbrev Xw.no : Xw := ⟨fun _ _ _ _ => False, noX⟩
/-- the wish does not look at the slots -/
class XwI [Xw] : Prop where
  ind : ∀ {cls : Value} {d : Option Addr} {σ σ' : L2.St} {H : Hp}, Xw.W cls d σ H → Xw.W cls d σ' H
section
variable [CN]
/-- an exception in the air -/
def RepX (K : PySem.W.Frag) (am : Option Addr) (Hs : Hp) (x : Exn) (cls : Value) (d : Option Addr) : Prop := ∃ C dd fvs, CN.at_ x.cls = some C ∧ cls = .ref C ∧ d = some dd ∧ Hs dd = some (.xd fvs) ∧ RepF K am Hs x.fs fvs
end
/-! ### the heap: what is shared, what is the machine's -/
/-- a draw machine: its cells, and that n draws are left -/
class Mach where
  foot : Hp → Addr → Addr → Prop
  ok : Hp → Addr → Nat → Prop
  self : ∀ {H : Hp} {m : Addr} {n : Nat}, ok H m n → foot H m m
  dom : ∀ {H : Hp} {m : Addr} {n : Nat} {a : Addr}, ok H m n → foot H m a → ∃ o, H a = some o
  frame : ∀ {H H' : Hp} {m : Addr} {n : Nat}, ok H m n → (∀ a, foot H m a → H' a = H a) → ok H' m n ∧ ∀ a, foot H' m a ↔ foot H m a
variable [Mach]
def MC (am : Option Addr) (H : Hp) (a : Addr) : Prop := ∃ m, am = some m ∧ Mach.foot H m a
structure MOk (Hs H : Hp) (m : Addr) (n : Nat) : Prop where
  ok : Mach.ok H m n
  off : ∀ a, Mach.foot H m a → Hs a = none
structure Spl (am : Option Addr) (Hs H : Hp) (n : Nat) : Prop where
  sub : Same Hs H
  mok : ∀ m, am = some m → MOk Hs H m n
structure Keep (am : Option Addr) (H H' : Hp) : Prop where
  at_ : ∀ a o, H a = some o → ¬ MC am H a → H' a = some o
  mc : ∀ a, MC am H' a → MC am H a ∨ H a = none
  dom : ∀ a, H' a = none → H a = none
structure Ext (am : Option Addr) (Hs H Hs' H' : Hp) (n' : Nat) : Prop where
  spl : Spl am Hs' H' n'
  same : Same Hs Hs'
  keep : Keep am H H'
  new : ∀ a o, Hs' a = some o → Hs a = some o ∨ H a = none
theorem Keep.refl (am : Option Addr) (H : Hp) : Keep am H H := ⟨fun _ _ h _ => h, fun _ h => .inl h, fun _ h => h⟩
theorem Keep.trans {am : Option Addr} {H H1 H2 : Hp} (a : Keep am H H1) (b : Keep am H1 H2) : Keep am H H2 where
  at_ := fun c o h n => b.at_ c o (a.at_ c o h n) fun z => (a.mc c z).elim n fun q => by rw [h] at q; cases q
  mc := fun c z => (b.mc c z).elim (a.mc c) fun q => .inr (a.dom c q)
  dom := fun c h => a.dom c (b.dom c h)
theorem Ext.refl {am : Option Addr} {Hs H : Hp} {n : Nat} (s : Spl am Hs H n) : Ext am Hs H Hs H n := ⟨s, Same.refl _, Keep.refl _ _, fun _ _ h => .inl h⟩
theorem Ext.trans {am : Option Addr} {Hs H Hs1 H1 Hs2 H2 : Hp} {n1 n2 : Nat} (a : Ext am Hs H Hs1 H1 n1) (b : Ext am Hs1 H1 Hs2 H2 n2) : Ext am Hs H Hs2 H2 n2 :=
  ⟨b.spl, a.same.trans b.same, a.keep.trans b.keep, fun c o h => (b.new c o h).elim (a.new c o) fun q => .inr (a.keep.dom c q)⟩
theorem MOk.fr {Hs H : Hp} {m p : Addr} {n : Nat} {o : HO} (h : MOk Hs H m n) (hp : H p = none) : Mach.ok (upd H p o) m n ∧ ∀ a, Mach.foot (upd H p o) m a ↔ Mach.foot H m a :=
  Mach.frame h.ok fun a q => by
    obtain ⟨u, e⟩ := Mach.dom h.ok q
    exact upd_ne (ne_of_none e hp)
theorem MOk.lay {Hs H : Hp} {m p : Addr} {n : Nat} {o : HO} (h : MOk Hs H m n) (hp : H p = none) : MOk (upd Hs p o) (upd H p o) m n :=
  ⟨(h.fr hp).1, fun a q => by
    have q' := ((h.fr hp).2 a).mp q
    obtain ⟨u, e⟩ := Mach.dom h.ok q'
    rw [upd_ne (ne_of_none e hp)]
    exact h.off a q'⟩
theorem MOk.lay1 {Hs H : Hp} {m p : Addr} {n : Nat} {o : HO} (h : MOk Hs H m n) (hp : H p = none) : MOk Hs (upd H p o) m n :=
  ⟨(h.fr hp).1, fun a q => h.off a (((h.fr hp).2 a).mp q)⟩
theorem MC.lay {am : Option Addr} {H : Hp} {p a : Addr} {o : HO} {Hs : Hp} {n : Nat} (s : Spl am Hs H n) (hp : H p = none) (h : MC am (upd H p o) a) : MC am H a := by
  obtain ⟨m, e, h⟩ := h
  exact ⟨m, e, (((s.mok m e).fr hp).2 a).mp h⟩
theorem Same.lay {Hs H : Hp} {p : Addr} {o : HO} (s : Same Hs H) (hp : H p = none) : Same (upd Hs p o) (upd H p o) := fun a u e => by
  by_cases h : a = p
  · subst h; rw [upd_same] at e ⊢; exact e
  · rw [upd_ne h] at e ⊢; exact s a u e
theorem Same.lay1 {Hs H : Hp} {p : Addr} {o : HO} (s : Same Hs H) (hp : H p = none) : Same Hs (upd H p o) := fun a u e => by
  rw [upd_ne (ne_of_none (s a u e) hp)]; exact s a u e
theorem Same.upd_new {H : Hp} {p : Addr} {o : HO} (hp : H p = none) : Same H (upd H p o) := Same.lay1 (Same.refl H) hp
/-- a new object, shared -/
theorem Ext.lay {am : Option Addr} {Hs H : Hp} {n : Nat} {p : Addr} (s : Spl am Hs H n) (hp : H p = none) (o : HO) : Ext am Hs H (upd Hs p o) (upd H p o) n where
  spl := ⟨Same.lay s.sub hp, fun m e => (s.mok m e).lay hp⟩
  same := Same.upd_new (s.sub.free hp)
  keep := ⟨fun a u e _ => by rw [upd_ne (ne_of_none e hp)]; exact e, fun a h => .inl (MC.lay s hp h), fun a h => by
    by_cases q : a = p
    · subst q; exact hp
    · rw [upd_ne q] at h; exact h⟩
  new := fun a u e => by
    by_cases q : a = p
    · subst q; exact .inr hp
    · rw [upd_ne q] at e; exact .inl e
/-- a new object, not shared (one's own) -/
theorem Ext.lay1 {am : Option Addr} {Hs H : Hp} {n : Nat} {p : Addr} (s : Spl am Hs H n) (hp : H p = none) (o : HO) : Ext am Hs H Hs (upd H p o) n where
  spl := ⟨Same.lay1 s.sub hp, fun m e => (s.mok m e).lay1 hp⟩
  same := Same.refl _
  keep := (Ext.lay s hp o).keep
  new := fun a u e => .inl e
/-! ### slots -/
inductive Sl where
  | no | tr (t : T) | own (t : T)
abbrev Env := List Sl
section
variable [CN]
def OwnAt (K : PySem.W.Frag) (am : Option Addr) (Hs H : Hp) (l : Addr) : T → Prop
  | .lst xs => ∃ vs, H l = some (.lst vs) ∧ Reps K am Hs xs vs
  | .dct kts => ∃ kvs, H l = some (.dK kvs) ∧ RepK K am Hs kts kvs
  | .obj c fts => ∃ C dx fvs, CN.at_ c = some C ∧ H l = some (.ins C dx fvs) ∧ RepF K am Hs fts fvs
  | _ => False
theorem OwnAt.some {K : PySem.W.Frag} {am : Option Addr} {Hs H : Hp} {l : Addr} {t : T} (h : OwnAt K am Hs H l t) : ∃ o, H l = .some o := by
  cases t with
  | lst xs => obtain ⟨vs, e, _⟩ := h; exact ⟨_, e⟩
  | dct xs => obtain ⟨vs, e, _⟩ := h; exact ⟨_, e⟩
  | obj C xs => obtain ⟨C, dx, vs, _, e, _⟩ := h; exact ⟨_, e⟩
  | _ => exact h.elim
def SlOk (K : PySem.W.Frag) (am : Option Addr) (Hs H : Hp) (o : Option (Option V)) : Sl → Prop
  | .no => True
  | .tr t => ∃ v, o = some (some v) ∧ Rep K am Hs t v
  | .own t => ∃ l, o = some (some (.ref l)) ∧ Hs l = none ∧ ¬ MC am H l ∧ OwnAt K am Hs H l t
structure RepE0 (K : PySem.W.Frag) (am : Option Addr) (Hs H : Hp) (σ : L2.St) (ts : Env) : Prop where
  len : ts.length = σ.length
  at_ : ∀ (i : Nat) (s : Sl), ts[i]? = some s → SlOk K am Hs H σ[i]? s
  dis : ∀ (i j : Nat) (t u : T) (l : Addr), i ≠ j → ts[i]? = some (.own t) → ts[j]? = some (.own u) → σ[i]? = some (some (.ref l)) → σ[j]? ≠ some (some (.ref l))
theorem OwnAt.ext {K : PySem.W.Frag} {am : Option Addr} {Hs H Hs' H' : Hp} {n : Nat} {l : Addr} {t : T} (x : Ext am Hs H Hs' H' n) (hm : ¬ MC am H l) (h : OwnAt K am Hs H l t) : OwnAt K am Hs' H' l t := by
  cases t with
  | lst xs => obtain ⟨vs, e, r⟩ := h; exact ⟨vs, x.keep.at_ l _ e hm, Reps.mono x.same _ _ r⟩
  | dct xs => obtain ⟨vs, e, r⟩ := h; exact ⟨vs, x.keep.at_ l _ e hm, RepK.mono x.same _ _ r⟩
  | obj C xs => obtain ⟨C, dx, vs, e0, e, r⟩ := h; exact ⟨C, dx, vs, e0, x.keep.at_ l _ e hm, RepF.mono x.same _ _ r⟩
  | _ => exact h.elim
theorem SlOk.ext {K : PySem.W.Frag} {am : Option Addr} {Hs H Hs' H' : Hp} {n : Nat} {o : Option (Option V)} {s : Sl} (x : Ext am Hs H Hs' H' n) (h : SlOk K am Hs H o s) : SlOk K am Hs' H' o s := by
  cases s with
  | no => trivial
  | tr t => obtain ⟨v, e, r⟩ := h; exact ⟨v, e, Rep.mono x.same _ _ r⟩
  | own t =>
    obtain ⟨l, e, h1, h2, h3⟩ := h
    obtain ⟨o, ho⟩ := h3.some
    refine ⟨l, e, ?_, fun z => (x.keep.mc l z).elim h2 (fun q => by rw [ho] at q; cases q), h3.ext x h2⟩
    cases q : Hs' l with
    | none => rfl
    | some u => exact ((x.new l u q).elim (fun z => by rw [h1] at z; cases z) fun z => by rw [ho] at z; cases z)
theorem RepE0.ext {K : PySem.W.Frag} {am : Option Addr} {Hs H Hs' H' : Hp} {n : Nat} {σ : L2.St} {ts : Env} (h : RepE0 K am Hs H σ ts) (x : Ext am Hs H Hs' H' n) : RepE0 K am Hs' H' σ ts :=
  ⟨h.len, fun i s e => (h.at_ i s e).ext x, h.dis⟩
end
variable [CN] [Xw]
/-- the slots as trees, and what is wanted of exceptions -/
structure RepE (K : PySem.W.Frag) (am : Option Addr) (Hs H : Hp) (σ : L2.St) (ts : Env) : Prop extends RepE0 K am Hs H σ ts where
  xk : ∀ (x : Exn) (n' : Nat) (cls : Value) (d : Option Addr) (Hs' H' : Hp), Xw.RE x n' → Ext am Hs H Hs' H' n' → RepX K am Hs' x cls d → Xw.W cls d σ H'
theorem RepE.ext {K : PySem.W.Frag} {am : Option Addr} {Hs H Hs' H' : Hp} {n : Nat} {σ : L2.St} {ts : Env} (h : RepE K am Hs H σ ts) (x : Ext am Hs H Hs' H' n) : RepE K am Hs' H' σ ts :=
  ⟨h.toRepE0.ext x, fun e n' cls d Hs2 H2 r y q => h.xk e n' cls d Hs2 H2 r (x.trans y) q⟩
/-- where no exception is wanted -/
theorem RepE0.no {K : PySem.W.Frag} {am : Option Addr} {Hs H : Hp} {σ : L2.St} {ts : Env} (h : RepE0 K am Hs H σ ts) : @RepE _ _ Xw.no K am Hs H σ ts := @RepE.mk _ _ Xw.no _ _ _ _ _ _ h fun _ _ _ _ _ _ r => r.elim
/-! ### expressions -/
abbrev WE := Env → Nat → (T → Nat → Prop) → Prop
def tT (K : PySem.W.Frag) (f : WE) : TE := fun σ H Q => ∃ (am : Option Addr) (Hs : Hp) (ts : Env) (n : Nat) (R : T → Nat → Prop), Spl am Hs H n ∧ RepE K am Hs H σ ts ∧ f ts n R ∧
  ∀ r n', R r n' → ∀ v Hs' H', Ext am Hs H Hs' H' n' → Rep K am Hs' r v → Q v H'
/-- a tree-level judgement -/
abbrev QE (X : Cx) (e : Expr) (f : WE) : Prop := PE X e (tT X.K f)
theorem PE.imp {X : Cx} {e : Expr} {t u : TE} (h : PE X e t) (k : ∀ σ H Q, u σ H Q → t σ H Q) : PE X e u := ⟨fun pins s σ H Q I q => h.run pins s σ H Q I (k σ H Q q)⟩
abbrev WA := Env → Nat → (List T → Nat → Prop) → Prop
def tTA (K : PySem.W.Frag) (f : WA) : TA := fun σ H Q => ∃ (am : Option Addr) (Hs : Hp) (ts : Env) (n : Nat) (R : List T → Nat → Prop), Spl am Hs H n ∧ RepE K am Hs H σ ts ∧ f ts n R ∧
  ∀ r n', R r n' → ∀ v Hs' H', Ext am Hs H Hs' H' n' → Reps K am Hs' r v → Q v H'
abbrev QA (X : Cx) (es : List Expr) (f : WA) : Prop := PA X es (tTA X.K f)
theorem PA.imp {X : Cx} {e : List Expr} {t u : TA} (h : PA X e t) (k : ∀ σ H Q, u σ H Q → t σ H Q) : PA X e u := ⟨fun pos pins s σ H Q I q => h.run pos pins s σ H Q I (k σ H Q q)⟩
abbrev WT := Env → Nat → (Bool → Nat → Prop) → Prop
def tTT (K : PySem.W.Frag) (f : WT) : TT := fun σ H Q => ∃ (am : Option Addr) (Hs : Hp) (ts : Env) (n : Nat) (R : Bool → Nat → Prop), Spl am Hs H n ∧ RepE K am Hs H σ ts ∧ f ts n R ∧
  ∀ r n', R r n' → ∀ Hs' H', Ext am Hs H Hs' H' n' → Q r H'
abbrev QT (X : Cx) (e : Expr) (f : WT) : Prop := PT X e (tTT X.K f)
theorem PT.imp {X : Cx} {e : Expr} {t u : TT} (h : PT X e t) (k : ∀ σ H Q, u σ H Q → t σ H Q) : PT X e u := ⟨fun pins s σ H Q I q => h.run pins s σ H Q I (k σ H Q q)⟩
end TL
namespace TL
open PySem L2
variable [Mach] [CN] [Xw]
/-! ### lists of trees -/
section
variable {K : PySem.W.Frag} {am : Option Addr} {H : Hp}
theorem Reps.nil_iff {vs : List V} : Reps K am H [] vs ↔ vs = [] := by simp only [Reps]
theorem Reps.cons_iff {t : T} {ts : List T} {vs : List V} : Reps K am H (t :: ts) vs ↔ ∃ v r, vs = v :: r ∧ Rep K am H t v ∧ Reps K am H ts r := by simp only [Reps]
theorem Reps.mk_cons {t : T} {ts : List T} {v : V} {vs : List V} (h : Rep K am H t v) (r : Reps K am H ts vs) : Reps K am H (t :: ts) (v :: vs) := Reps.cons_iff.mpr ⟨v, vs, rfl, h, r⟩
theorem Reps.length : ∀ {ts : List T} {vs : List V}, Reps K am H ts vs → ts.length = vs.length
  | [], vs, h => by rw [Reps.nil_iff.mp h]; rfl
  | t :: ts, vs, h => by
    obtain ⟨v, r, rfl, _, h2⟩ := Reps.cons_iff.mp h
    simp [Reps.length h2]
theorem Reps.append : ∀ {ts us : List T} {vs ws : List V}, Reps K am H ts vs → Reps K am H us ws → Reps K am H (ts ++ us) (vs ++ ws)
  | [], us, vs, ws, h, h' => by rw [Reps.nil_iff.mp h]; exact h'
  | t :: ts, us, vs, ws, h, h' => by
    obtain ⟨v, r, rfl, h1, h2⟩ := Reps.cons_iff.mp h
    exact Reps.mk_cons h1 (Reps.append h2 h')
theorem Reps.get : ∀ {ts : List T} {vs : List V} {i : Nat} {t : T}, Reps K am H ts vs → ts[i]? = some t → ∃ v, vs[i]? = some v ∧ Rep K am H t v
  | [], vs, i, t, h, e => by simp at e
  | t :: ts, vs, 0, u, h, e => by
    obtain ⟨v, r, rfl, h1, h2⟩ := Reps.cons_iff.mp h
    simp at e; subst e
    exact ⟨v, by simp, h1⟩
  | t :: ts, vs, i + 1, u, h, e => by
    obtain ⟨v, r, rfl, h1, h2⟩ := Reps.cons_iff.mp h
    obtain ⟨w, e1, e2⟩ := Reps.get (i := i) (t := u) h2 (by simpa using e)
    exact ⟨w, by simpa using e1, e2⟩
theorem Reps.getV : ∀ {ts : List T} {vs : List V} {i : Nat} {v : V}, Reps K am H ts vs → vs[i]? = some v → ∃ t, ts[i]? = some t ∧ Rep K am H t v
  | [], vs, i, t, h, e => by rw [Reps.nil_iff.mp h] at e; simp at e
  | t :: ts, vs, 0, u, h, e => by
    obtain ⟨v, r, rfl, h1, h2⟩ := Reps.cons_iff.mp h
    simp at e; subst e
    exact ⟨t, by simp, h1⟩
  | t :: ts, vs, i + 1, u, h, e => by
    obtain ⟨v, r, rfl, h1, h2⟩ := Reps.cons_iff.mp h
    obtain ⟨w, e1, e2⟩ := Reps.getV (i := i) (v := u) h2 (by simpa using e)
    exact ⟨w, by simpa using e1, e2⟩
theorem Reps.drop : ∀ {ts : List T} {vs : List V} (n : Nat), Reps K am H ts vs → Reps K am H (ts.drop n) (vs.drop n)
  | ts, vs, 0, h => h
  | [], vs, n + 1, h => by rw [Reps.nil_iff.mp h]; exact Reps.nil_iff.mpr rfl
  | t :: ts, vs, n + 1, h => by
    obtain ⟨v, r, rfl, h1, h2⟩ := Reps.cons_iff.mp h
    exact Reps.drop n h2
theorem Reps.take : ∀ {ts : List T} {vs : List V} (n : Nat), Reps K am H ts vs → Reps K am H (ts.take n) (vs.take n)
  | ts, vs, 0, h => Reps.nil_iff.mpr (by simp)
  | [], vs, n + 1, h => by rw [Reps.nil_iff.mp h]; exact Reps.nil_iff.mpr rfl
  | t :: ts, vs, n + 1, h => by
    obtain ⟨v, r, rfl, h1, h2⟩ := Reps.cons_iff.mp h
    exact Reps.mk_cons h1 (Reps.take n h2)
theorem Reps.set : ∀ {ts : List T} {vs : List V} (n : Nat) {t : T} {v : V}, Rep K am H t v → Reps K am H ts vs → Reps K am H (ts.set n t) (vs.set n v)
  | [], vs, n, t, v, r, h => by rw [Reps.nil_iff.mp h]; exact Reps.nil_iff.mpr rfl
  | u :: ts, vs, 0, t, v, r, h => by
    obtain ⟨w, q, rfl, h1, h2⟩ := Reps.cons_iff.mp h
    exact Reps.mk_cons r h2
  | u :: ts, vs, n + 1, t, v, r, h => by
    obtain ⟨w, q, rfl, h1, h2⟩ := Reps.cons_iff.mp h
    exact Reps.mk_cons h1 (Reps.set n r h2)
theorem Reps.eraseIdx : ∀ {ts : List T} {vs : List V} (n : Nat), Reps K am H ts vs → Reps K am H (ts.eraseIdx n) (vs.eraseIdx n)
  | [], vs, n, h => by rw [Reps.nil_iff.mp h]; exact Reps.nil_iff.mpr rfl
  | u :: ts, vs, 0, h => by
    obtain ⟨w, q, rfl, h1, h2⟩ := Reps.cons_iff.mp h
    exact h2
  | u :: ts, vs, n + 1, h => by
    obtain ⟨w, q, rfl, h1, h2⟩ := Reps.cons_iff.mp h
    exact Reps.mk_cons h1 (Reps.eraseIdx n h2)
theorem Reps.flat : ∀ {n : Nat} {ts : List T} {vs : List V}, Reps K am H ts vs → Reps K am H (List.replicate n ts).flatten (List.replicate n vs).flatten
  | 0, ts, vs, h => Reps.nil_iff.mpr rfl
  | n + 1, ts, vs, h => by
    rw [List.replicate_succ, List.replicate_succ, List.flatten_cons, List.flatten_cons]
    exact h.append (Reps.flat h)
/-- flat lists -/
theorem Reps.ints : ∀ {ns : List Int} {vs : List V}, Reps K am H (ns.map T.int) vs → vs = ns.map V.int
  | [], vs, h => Reps.nil_iff.mp h
  | n :: ns, vs, h => by
    obtain ⟨v, r, rfl, h1, h2⟩ := Reps.cons_iff.mp h
    simp only [Rep] at h1
    rw [h1, Reps.ints h2]; rfl
theorem Reps.strs : ∀ {ns : List Str} {vs : List V}, Reps K am H (ns.map T.str) vs → vs = ns.map V.str
  | [], vs, h => Reps.nil_iff.mp h
  | n :: ns, vs, h => by
    obtain ⟨v, r, rfl, h1, h2⟩ := Reps.cons_iff.mp h
    simp only [Rep] at h1
    rw [h1, Reps.strs h2]; rfl
theorem Reps.bls : ∀ {ns : List Bool} {vs : List V}, Reps K am H (ns.map T.bl) vs → vs = ns.map V.bl
  | [], vs, h => Reps.nil_iff.mp h
  | n :: ns, vs, h => by
    obtain ⟨v, r, rfl, h1, h2⟩ := Reps.cons_iff.mp h
    simp only [Rep] at h1
    rw [h1, Reps.bls h2]; rfl
theorem reps_ints : ∀ {ns : List Int}, Reps K am H (ns.map T.int) (ns.map V.int)
  | [] => Reps.nil_iff.mpr rfl
  | n :: ns => Reps.mk_cons (by simp only [Rep]) reps_ints
theorem reps_strs : ∀ {ns : List Str}, Reps K am H (ns.map T.str) (ns.map V.str)
  | [] => Reps.nil_iff.mpr rfl
  | n :: ns => Reps.mk_cons (by simp only [Rep]) reps_strs
theorem reps_bls : ∀ {ns : List Bool}, Reps K am H (ns.map T.bl) (ns.map V.bl)
  | [] => Reps.nil_iff.mpr rfl
  | n :: ns => Reps.mk_cons (by simp only [Rep]) reps_bls
end
/-! ### primitives -/
abbrev G1 := T → (T → Prop) → Prop
abbrev G2 := T → T → (T → Prop) → Prop
abbrev GN := List T → (T → Prop) → Prop
def Done (K : PySem.W.Frag) (am : Option Addr) (Hs H : Hp) (n : Nat) (R : T → Prop) (Q : VK) : Prop := ∀ z, R z → ∀ v Hs' H', Ext am Hs H Hs' H' n → Rep K am Hs' z v → Q v H'
theorem Done.here {K : PySem.W.Frag} {am : Option Addr} {Hs H : Hp} {n : Nat} {R : T → Prop} {Q : VK} (d : Done K am Hs H n R Q) (s : Spl am Hs H n) {z : T} {v : V} (h : R z) (r : Rep K am Hs z v) : Q v H := d z h v Hs H (Ext.refl s) r
theorem Done.lay {K : PySem.W.Frag} {am : Option Addr} {Hs H : Hp} {n : Nat} {R : T → Prop} {Q : VK} (d : Done K am Hs H n R Q) (s : Spl am Hs H n) {z : T} (h : R z) {p : Addr} (hp : H p = none) (o : HO) (r : Rep K am (upd Hs p o) z (.ref p)) : Q (.ref p) (upd H p o) := d z h (.ref p) (upd Hs p o) (upd H p o) (Ext.lay s hp o) r
theorem rep_lst_new {K : PySem.W.Frag} {am : Option Addr} {Hs H : Hp} {n : Nat} (s : Spl am Hs H n) {p : Addr} (hp : H p = none) {ts : List T} {vs : List V} (r : Reps K am Hs ts vs) : Rep K am (upd Hs p (.lst vs)) (.lst ts) (.ref p) := by
  simp only [Rep]
  exact ⟨p, vs, rfl, upd_same, Reps.mono (Same.upd_new (s.sub.free hp)) _ _ r⟩
theorem rep_tup_new {K : PySem.W.Frag} {am : Option Addr} {Hs H : Hp} {n : Nat} (s : Spl am Hs H n) {p : Addr} (hp : H p = none) {ts : List T} {vs : List V} (r : Reps K am Hs ts vs) : Rep K am (upd Hs p (.tup vs)) (.tup ts) (.ref p) := by
  simp only [Rep]
  exact ⟨p, vs, rfl, .inl (.inl upd_same), Reps.mono (Same.upd_new (s.sub.free hp)) _ _ r⟩
def R2Ok (K : PySem.W.Frag) (r : R2) (g : G2) : Prop := ∀ (am : Option Addr) (Hs H : Hp) (n : Nat) (x y : T) (vx vy : V) (R : T → Prop) (Q : VK), Spl am Hs H n → Rep K am Hs x vx → Rep K am Hs y vy → g x y R → Done K am Hs H n R Q → r vx vy H Q
def R1Ok (K : PySem.W.Frag) (r : V → Hp → VK → Prop) (g : G1) : Prop := ∀ (am : Option Addr) (Hs H : Hp) (n : Nat) (x : T) (vx : V) (R : T → Prop) (Q : VK), Spl am Hs H n → Rep K am Hs x vx → g x R → Done K am Hs H n R Q → r vx H Q
def RNOk (K : PySem.W.Frag) (r : List V → Hp → VK → Prop) (g : GN) : Prop := ∀ (am : Option Addr) (Hs H : Hp) (n : Nat) (x : List T) (vx : List V) (R : T → Prop) (Q : VK), Spl am Hs H n → Reps K am Hs x vx → g x R → Done K am Hs H n R Q → r vx H Q
def RMOk (K : PySem.W.Frag) (r : V → List V → Hp → VK → Prop) (g : T → GN) : Prop := ∀ (am : Option Addr) (Hs H : Hp) (n : Nat) (x : T) (vx : V) (y : List T) (vy : List V) (R : T → Prop) (Q : VK), Spl am Hs H n → Rep K am Hs x vx → Reps K am Hs y vy → g x y R → Done K am Hs H n R Q → r vx vy H Q
/-! ### expressions -/
def wVar (i : Nat) : WE := fun ts n R => match ts[i]? with
  | some (.tr t) => R t n
  | _ => False
def wC (t : T) : WE := fun _ n R => R t n
def w1 (g : G1) (fa : WE) : WE := fun ts n R => fa ts n fun x n1 => g x fun z => R z n1
def w2 (g : G2) (fa fb : WE) : WE := fun ts n R => fa ts n fun x n1 => fb ts n1 fun y n2 => g x y fun z => R z n2
def wNil : WA := fun _ n R => R [] n
def wCons (fa : WE) (fr : WA) : WA := fun ts n R => fa ts n fun x n1 => fr ts n1 fun xs n2 => R (x :: xs) n2
def wN (g : GN) (fa : WA) : WE := fun ts n R => fa ts n fun xs n1 => g xs fun z => R z n1
def wM (g : T → GN) (fo : WE) (fa : WA) : WE := fun ts n R => fo ts n fun x n1 => fa ts n1 fun xs n2 => g x xs fun z => R z n2
section
variable {X : Cx} {a b e : Expr} {es : List Expr} {fa fb f : WE} {fs : WA} {pos : Pos}
theorem q_var (i : Nat) {x : Str} {p : Pos} (h : PE X (.Name x p) (tVar i)) : QE X (.Name x p) (wVar i) := PE.imp h fun σ H Q ⟨am, Hs, ts, n, R, sp, re, h, k⟩ => by
  unfold wVar at h
  split at h
  · rename_i t e
    obtain ⟨v, e1, e2⟩ := re.at_ i _ e
    exact ⟨v, e1, k t n h v Hs H (Ext.refl sp) e2⟩
  · exact h.elim
/-- a constant, or a value that stands everywhere -/
theorem q_c {t : T} {v : V} (h : PE X e (tC v)) (r : ∀ am H, Rep X.K am H t v) : QE X e (wC t) := PE.imp h fun σ H Q ⟨am, Hs, ts, n, R, sp, re, h, k⟩ => k t n h v Hs H (Ext.refl sp) (r am Hs)
theorem q_int {i : Int} {j : Nat} {p : Pos} : QE X (.Constant (.int i) j p) (wC (.int i)) := q_c pe_int fun _ _ => by simp only [Rep]
theorem q_bl {i : Bool} {j : Nat} {p : Pos} : QE X (.Constant (.bool i) j p) (wC (.bl i)) := q_c pe_bl fun _ _ => by simp only [Rep]
theorem q_non {j : Nat} {p : Pos} : QE X (.Constant .none j p) (wC .non) := q_c pe_non fun _ _ => by simp only [Rep]
theorem q_str {i : Str} {j : Nat} {p : Pos} : QE X (.Constant (.str i) j p) (wC (.str i)) := q_c pe_str fun _ _ => by simp only [Rep]
/-- two operands in a row, at the tree level -/
theorem tT_bin {K : PySem.W.Frag} {g : T → T → Nat → (T → Nat → Prop) → Prop} {r : R2} {σ : L2.St} {H : Hp} {Q : VK} (hg : ∀ (am : Option Addr) (Hs H : Hp) (n : Nat) (x y : T) (vx vy : V) (R : T → Nat → Prop) (Q : VK), Spl am Hs H n → Rep K am Hs x vx → Rep K am Hs y vy → g x y n R → (∀ z n', R z n' → ∀ v Hs' H', Ext am Hs H Hs' H' n' → Rep K am Hs' z v → Q v H') → r vx vy H Q)
    (h : tT K (fun ts n R => fa ts n fun x n1 => fb ts n1 fun y n2 => g x y n2 R) σ H Q) : tOp r (tT K fa) (tT K fb) σ H Q := by
  obtain ⟨am, Hs, ts, n, R, sp, re, h, k⟩ := h
  refine ⟨am, Hs, ts, n, _, sp, re, h, fun x n1 hx vx Hs1 H1 e1 rx => ⟨am, Hs1, ts, n1, _, e1.spl, re.ext e1, hx, fun y n2 hy vy Hs2 H2 e2 ry => ?_⟩⟩
  exact hg am Hs2 H2 n2 x y vx vy _ Q e2.spl (Rep.mono e2.same _ _ rx) ry hy fun z n' hz v Hs' H' e3 rz => k z n' hz v Hs' H' ((e1.trans e2).trans e3) rz
theorem q_op {op : Operator} {r : R2} {g : G2} (ho : OpR X (binaryOp op) r) (hg : R2Ok X.K r g) (ha : QE X a fa) (hb : QE X b fb) : QE X (.BinOp a op b pos) (w2 g fa fb) :=
  PE.imp (pe_op ho ha hb) fun σ H Q h => tT_bin (g := fun x y n R => g x y fun z => R z n) (fun am Hs H n x y vx vy R Q sp rx ry hg' k => hg am Hs H n x y vx vy _ Q sp rx ry hg' fun z hz v Hs' H' e r => k z n hz v Hs' H' e r) h
theorem q_cmp {op : CmpOp} {r : R2} {g : G2} (ho : OpR X (compareOp op) r) (hg : R2Ok X.K r g) (hm : behindInMarks op b = false) (ha : QE X a fa) (hb : QE X b fb) : QE X (.Compare a [op] [b] pos) (w2 g fa fb) :=
  PE.imp (pe_cmpR ho ha hb hm) fun σ H Q h => tT_bin (g := fun x y n R => g x y fun z => R z n) (fun am Hs H n x y vx vy R Q sp rx ry hg' k => hg am Hs H n x y vx vy _ Q sp rx ry hg' fun z hz v Hs' H' e r => k z n hz v Hs' H' e r) h
theorem q_ix {r : R2} {g : G2} (ho : IxR X r) (hg : R2Ok X.K r g) (hs : PlainIx b) (ha : QE X a fa) (hb : QE X b fb) : QE X (.Subscript a b pos) (w2 g fa fb) :=
  PE.imp (pe_ix ho ha hb hs) fun σ H Q h => tT_bin (g := fun x y n R => g x y fun z => R z n) (fun am Hs H n x y vx vy R Q sp rx ry hg' k => hg am Hs H n x y vx vy _ Q sp rx ry hg' fun z hz v Hs' H' e r => k z n hz v Hs' H' e r) h
theorem q_un {op : UnaryOp} {r : V → Hp → VK → Prop} {g : G1} (ho : UnR X (unaryOp op) r) (hg : R1Ok X.K r g) (ha : QE X a fa) : QE X (.UnaryOp op a pos) (w1 g fa) :=
  PE.imp (pe_un ho ha) fun σ H Q ⟨am, Hs, ts, n, R, sp, re, h, k⟩ => ⟨am, Hs, ts, n, _, sp, re, h, fun x n1 hx vx Hs1 H1 e1 rx => hg am Hs1 H1 n1 x vx _ Q e1.spl rx hx fun z hz v Hs' H' e r => k z n1 hz v Hs' H' (e1.trans e) r⟩
/-! arguments -/
theorem qa_nil : QA X [] wNil := PA.imp pa_nil fun σ H Q ⟨am, Hs, ts, n, R, sp, re, h, k⟩ => k [] n h [] Hs H (Ext.refl sp) (Reps.nil_iff.mpr rfl)
theorem qa_cons (ha : QE X e f) (hr : QA X es fs) (hs : starEach (e :: es) X.env = (false, eval e X.env) :: starEach es X.env := by rfl) : QA X (e :: es) (wCons f fs) := PA.imp (pa_cons ha hr hs) fun σ H Q ⟨am, Hs, ts, n, R, sp, re, h, k⟩ => by
  refine ⟨am, Hs, ts, n, _, sp, re, h, fun x n1 hx vx Hs1 H1 e1 rx => ⟨am, Hs1, ts, n1, _, e1.spl, re.ext e1, hx, fun y n2 hy vy Hs2 H2 e2 ry => ?_⟩⟩
  exact k _ n2 hy _ Hs2 H2 (e1.trans e2) (Reps.mk_cons (Rep.mono e2.same _ _ rx) ry)
theorem tT_n {K : PySem.W.Frag} {g : GN} {r : List V → Hp → VK → Prop} (hg : RNOk K r g) {σ : L2.St} {H : Hp} {Q : VK} (h : tT K (wN g fs) σ H Q) : tTA K fs σ H fun vs H1 => r vs H1 Q := by
  obtain ⟨am, Hs, ts, n, R, sp, re, h, k⟩ := h
  exact ⟨am, Hs, ts, n, _, sp, re, h, fun x n1 hx vx Hs1 H1 e1 rx => hg am Hs1 H1 n1 x vx _ Q e1.spl rx hx fun z hz v Hs' H' e r => k z n1 hz v Hs' H' (e1.trans e) r⟩
theorem q_callB {id : String} {x : Str} {p : Pos} {r : List V → Hp → VK → Prop} {g : GN} (hc : CallR X (.builtin id) r) (hg : RNOk X.K r g) (hgl : Gl X x) (hm : X.mg x = none) (hv : bootBuiltins x = some (.builtin id)) (ha : QA X (e :: es) fs) (hn : x ≠ "__name__" := by decide) (hdb : (x == ("__debug__" : Str)) = false := by decide)
    (he : starEach (e :: es) X.env = (false, eval e X.env) :: starEach es X.env := by rfl) (hpl : (backTo pos (starEach es X.env)).any (·.1) = false := by rfl) : QE X (.Call (.Name x p) (e :: es) [] pos) (wN g fs) :=
  PE.imp (pe_callB hc hgl hm hv ha hn hdb he hpl) fun σ H Q h => tT_n hg h
theorem q_callTy {id : String} {x : Str} {p : Pos} {r : List V → Hp → VK → Prop} {g : GN} (hc : CallR X (.type id) r) (hg : RNOk X.K r g) (hgl : Gl X x) (hm : X.mg x = none) (hv : bootBuiltins x = some (.type id)) (ha : QA X (e :: es) fs) (hn : x ≠ "__name__" := by decide) (hdb : (x == ("__debug__" : Str)) = false := by decide)
    (he : starEach (e :: es) X.env = (false, eval e X.env) :: starEach es X.env := by rfl) (hpl : (backTo pos (starEach es X.env)).any (·.1) = false := by rfl) : QE X (.Call (.Name x p) (e :: es) [] pos) (wN g fs) :=
  PE.imp (pe_callTy hc hgl hm hv ha hn hdb he hpl) fun σ H Q h => tT_n hg h
/-! displays -/
def pTup : GN := fun xs R => xs.length ≤ sizeLine ∧ R (.tup xs)
def pLst : GN := fun xs R => xs.length ≤ sizeLine ∧ R (.lst xs)
theorem q_tup {x1} (h : QA X es fs) : QE X (.Tuple es x1 pos) (wN pTup fs) := PE.imp (pe_tup h) fun σ H Q h => tT_n (r := fun xs H1 Q => xs.length ≤ sizeLine ∧ ∀ p, H1 p = none → Q (.ref p) (upd H1 p (.tup xs))) (fun am Hs H n x vx R Q sp rx hg k => ⟨by rw [← rx.length]; exact hg.1, fun p hp => k.lay sp hg.2 hp _ (rep_tup_new sp hp rx)⟩) h
theorem q_lst (h : QA X es fs) : QE X (.List es pos) (wN pLst fs) := PE.imp (pe_lst h) fun σ H Q h => tT_n (r := fun xs H1 Q => xs.length ≤ sizeLine ∧ ∀ p, H1 p = none → Q (.ref p) (upd H1 p (.lst xs))) (fun am Hs H n x vx R Q sp rx hg k => ⟨by rw [← rx.length]; exact hg.1, fun p hp => k.lay sp hg.2 hp _ (rep_lst_new sp hp rx)⟩) h
end
end TL
namespace TL
open PySem L2
variable [Mach] [CN] [Xw]
/-! ### numbers -/
def pInt (g : Int → Int → T) : G2 := fun x y R => match x, y with
  | .int i, .int j => R (g i j)
  | _, _ => False
def pIntC (C : Int → Int → Prop) (g : Int → Int → T) : G2 := fun x y R => match x, y with
  | .int i, .int j => C i j ∧ R (g i j)
  | _, _ => False
section
variable {K : PySem.W.Frag}
theorem ok_intI {g : Int → Int → Int} : R2Ok K (rI0 fun i j => .int (g i j)) (pInt fun i j => .int (g i j)) := fun am Hs H n x y vx vy R Q sp rx ry h k => by
  unfold pInt at h
  split at h
  · simp only [Rep] at rx ry
    exact ⟨_, _, rx, ry, k.here sp h (by simp only [Rep])⟩
  · exact h.elim
theorem ok_intB {g : Int → Int → Bool} : R2Ok K (rI0 fun i j => .bl (g i j)) (pInt fun i j => .bl (g i j)) := fun am Hs H n x y vx vy R Q sp rx ry h k => by
  unfold pInt at h
  split at h
  · simp only [Rep] at rx ry
    exact ⟨_, _, rx, ry, k.here sp h (by simp only [Rep])⟩
  · exact h.elim
theorem ok_intC {C : Int → Int → Prop} {g : Int → Int → Int} : R2Ok K (rI C fun i j => .int (g i j)) (pIntC C fun i j => .int (g i j)) := fun am Hs H n x y vx vy R Q sp rx ry h k => by
  unfold pIntC at h
  split at h
  · simp only [Rep] at rx ry
    exact ⟨_, _, rx, ry, h.1, k.here sp h.2 (by simp only [Rep])⟩
  · exact h.elim
end
abbrev pSub : G2 := pInt fun i j => .int (i - j)
abbrev pMulI : G2 := pIntC CMul fun i j => .int (i * j)
abbrev pDiv : G2 := pIntC CDiv fun i j => .int (i / j)
abbrev pMod : G2 := pIntC (fun _ j => 0 < j) fun i j => .int (i % j)
abbrev pPow : G2 := pIntC CPow fun i j => .int (i ^ j.toNat)
abbrev pShl : G2 := pIntC CPow fun i j => .int (i * 2 ^ j.toNat)
abbrev pShr : G2 := pIntC (fun _ j => 0 ≤ j) fun i j => .int (i / 2 ^ j.toNat)
abbrev pAnd : G2 := pInt fun i j => .int (Builtin.bitAnd i j)
abbrev pOr : G2 := pInt fun i j => .int (Builtin.bitOr i j)
abbrev pXor : G2 := pInt fun i j => .int (Builtin.bitXor i j)
def pAdd : G2 := fun x y R => match x, y with
  | .int i, .int j => R (.int (i + j))
  | .str a, .str b => a.length + b.length ≤ sizeLine ∧ R (.str (a ++ b))
  | .lst a, .lst b => a.length + b.length ≤ sizeLine ∧ R (.lst (a ++ b))
  | .tup a, .tup b => a.length + b.length ≤ sizeLine ∧ R (.tup (a ++ b))
  | _, _ => False
abbrev rStr2 (g : Str → Str → Str) : R2 := fun x y H Q => ∃ i j, x = .str i ∧ y = .str j ∧ i.length + j.length ≤ sizeLine ∧ Q (.str (g i j)) H
def rAddAll (K : PySem.W.Frag) : R2 := fun x y H Q => (rI0 fun i j => .int (i + j)) x y H Q ∨ (fun x y H Q => rStr2 (fun i j => i ++ j) x y H Q ∨ (fun x y H Q => rCat x y H Q ∨ rCatA K x y H Q) x y H Q) x y H Q
section
variable {X : Cx}
theorem op_addAll : OpR X (binaryOp .Add) (rAddAll X.K) := op_add.or (op_add_str.or (op_cat.or op_catA))
end
section
variable {K : PySem.W.Frag}
theorem ok_cat {am : Option Addr} {Hs H : Hp} {n : Nat} {a b : List T} {vx vy : V} {R : T → Prop} {Q : VK} (sp : Spl am Hs H n) (rx : Rep K am Hs (.lst a) vx) (ry : Rep K am Hs (.lst b) vy) (hl : a.length + b.length ≤ sizeLine) (h : R (.lst (a ++ b))) (k : Done K am Hs H n R Q) : rCat vx vy H Q := by
  simp only [Rep] at rx ry
  obtain ⟨p, xs, rfl, h1, h2⟩ := rx
  obtain ⟨q, ys, rfl, h3, h4⟩ := ry
  exact ⟨p, q, xs, ys, rfl, rfl, sp.sub _ _ h1, sp.sub _ _ h3, by rw [← h2.length, ← h4.length]; exact hl, fun c hc => k.lay sp h hc _ (rep_lst_new sp hc (h2.append h4))⟩
theorem ok_catT {am : Option Addr} {Hs H : Hp} {n : Nat} {a b : List T} {vx vy : V} {R : T → Prop} {Q : VK} (sp : Spl am Hs H n) (rx : Rep K am Hs (.tup a) vx) (ry : Rep K am Hs (.tup b) vy) (hl : a.length + b.length ≤ sizeLine) (h : R (.tup (a ++ b))) (k : Done K am Hs H n R Q) : rCatA K vx vy H Q := by
  have rx0 := rx
  have ry0 := ry
  simp only [Rep] at rx ry
  obtain ⟨p, xs, rfl, h1, h2⟩ := rx
  obtain ⟨q, ys, rfl, h3, h4⟩ := ry
  refine ⟨p, q, xs, ys, rfl, rfl, same_sqT sp.sub h1, same_sqT sp.sub h3, by rw [← h2.length, ← h4.length]; exact hl, fun e => ?_, fun e e' => ?_, fun e e' c hc => k.lay sp h hc _ (rep_tup_new sp hc (h2.append h4))⟩
  · have : a = [] := by
      cases a with
      | nil => rfl
      | cons t r => obtain ⟨v, w, z, _⟩ := Reps.cons_iff.mp h2; rw [e] at z; cases z
    subst this
    exact k.here sp h ry0
  · have : b = [] := by
      cases b with
      | nil => rfl
      | cons t r => obtain ⟨v, w, z, _⟩ := Reps.cons_iff.mp h4; rw [e'] at z; cases z
    subst this
    rw [List.append_nil] at h
    exact k.here sp h rx0
theorem ok_addAll : R2Ok K (rAddAll K) pAdd := fun am Hs H n x y vx vy R Q sp rx ry h k => by
  unfold pAdd at h
  split at h
  · simp only [Rep] at rx ry
    exact .inl ⟨_, _, rx, ry, k.here sp h (by simp only [Rep])⟩
  · simp only [Rep] at rx ry
    exact .inr (.inl ⟨_, _, rx, ry, h.1, k.here sp h.2 (by simp only [Rep])⟩)
  · exact .inr (.inr (.inl (ok_cat sp rx ry h.1 h.2 k)))
  · exact .inr (.inr (.inr (ok_catT sp rx ry h.1 h.2 k)))
  · exact h.elim
end
/-! ### times -/
def strRep (x : Str) (n : Int) : Str := ⟨(List.replicate n.toNat x.cps.toList).flatten.toArray⟩
def rMulS : R2 := fun x y H Q => ∃ z i, x = .str z ∧ y = .int i ∧ 0 ≤ i ∧ i ≤ 1000 ∧ z.length ≤ 1000 ∧ Q (.str (strRep z i)) H
end TL
namespace TL
open PySem L2
variable [Mach] [CN] [Xw]
/-! ### data -/
mutual
def T.dat : T → Option PyData
  | .non => some .none
  | .bl b => some (.bool b)
  | .int i => some (.int i)
  | .str x => some (.str x)
  | .lst xs => (T.dats xs).map PyData.list
  | .tup xs => (T.dats xs).map PyData.tuple
  | _ => none
def T.dats : List T → Option (List PyData)
  | [] => some []
  | x :: xs => match T.dat x, T.dats xs with
    | some d, some ds => some (d :: ds)
    | _, _ => none
end
mutual
theorem dat_dp {K : PySem.W.Frag} {am : Option Addr} {H : Hp} : ∀ (t : T) (v : V) (d : PyData), Rep K am H t v → T.dat t = some d → Dp K H v d
  | .non, v, d, r, e => by simp only [Rep] at r; simp only [T.dat] at e; cases e; subst r; exact .non
  | .bl b, v, d, r, e => by simp only [Rep] at r; simp only [T.dat] at e; cases e; subst r; exact .bl b
  | .int b, v, d, r, e => by simp only [Rep] at r; simp only [T.dat] at e; cases e; subst r; exact .int b
  | .str b, v, d, r, e => by simp only [Rep] at r; simp only [T.dat] at e; cases e; subst r; exact .str b
  | .ty b, v, d, r, e => by simp only [T.dat] at e; cases e
  | .mach, v, d, r, e => by simp only [T.dat] at e; cases e
  | .cst b, v, d, r, e => by simp only [T.dat] at e; cases e
  | .scr b, v, d, r, e => by simp only [T.dat] at e; cases e
  | .dct b, v, d, r, e => by simp only [T.dat] at e; cases e
  | .obj b c, v, d, r, e => by simp only [T.dat] at e; cases e
  | .exc b c, v, d, r, e => by simp only [T.dat] at e; cases e
  | .cls b, v, d, r, e => by simp only [T.dat] at e; cases e
  | .lst xs, v, d, r, e => by
    simp only [Rep] at r
    obtain ⟨a, vs, rfl, h1, h2⟩ := r
    simp only [T.dat] at e
    cases q : T.dats xs with
    | none => rw [q] at e; cases e
    | some ds =>
      rw [q] at e
      cases e
      exact .lst (SqL.of h1) (dats_dp xs vs ds h2 q)
  | .tup xs, v, d, r, e => by
    simp only [Rep] at r
    obtain ⟨a, vs, rfl, h1, h2⟩ := r
    simp only [T.dat] at e
    cases q : T.dats xs with
    | none => rw [q] at e; cases e
    | some ds =>
      rw [q] at e
      cases e
      exact .tup h1 (dats_dp xs vs ds h2 q)
theorem dats_dp {K : PySem.W.Frag} {am : Option Addr} {H : Hp} : ∀ (t : List T) (v : List V) (d : List PyData), Reps K am H t v → T.dats t = some d → DpAll K H v d
  | [], v, d, r, e => by simp only [Reps] at r; simp only [T.dats] at e; cases e; subst r; exact .nil
  | x :: xs, v, d, r, e => by
    obtain ⟨w, r', rfl, h1, h2⟩ := Reps.cons_iff.mp r
    simp only [T.dats] at e
    cases q : T.dat x with
    | none => rw [q] at e; cases e
    | some dx =>
      cases q' : T.dats xs with
      | none => rw [q, q'] at e; cases e
      | some ds =>
        rw [q, q'] at e
        cases e
        exact .cons (dat_dp x w dx h1 q) (dats_dp xs r' ds h2 q')
end
def pEqB (f : Bool → Bool) : G2 := fun x y R => match x, y with
  | .str a, .str b => R (.bl (f (decide (a = b))))
  | .int a, .int b => R (.bl (f (decide (a = b))))
  | .bl a, .bl b => R (.bl (f (decide (a = b))))
  | x, y => match T.dat x, T.dat y with
    | some d, some e => SeqAt.shaped d = true ∧ SeqAt.shaped e = true ∧ R (.bl (f (PyData.eqv d e)))
    | _, _ => False
abbrev pEq : G2 := pEqB id
abbrev pNe : G2 := pEqB not
def rEqX (K : PySem.W.Frag) : R2 := fun x y H Q => rEq x y H Q ∨ rEqD K x y H Q
def rNeX (K : PySem.W.Frag) : R2 := fun x y H Q => rNe x y H Q ∨ rNeD K x y H Q
section
variable {X : Cx}
theorem op_eqX (hu : X.A.units + 64 < cLine) : OpR X (compareOp .Eq) (rEqX X.K) := op_eq.or (op_eqD hu)
theorem op_neX (hu : X.A.units + 64 < cLine) : OpR X (compareOp .NotEq) (rNeX X.K) := op_ne.or (op_neD hu)
end
section
variable {K : PySem.W.Frag}
theorem dec_V_str {a b : Str} : decide (V.str a = V.str b) = decide (a = b) := by
  by_cases h : a = b
  · simp [h]
  · simp [h]
theorem dec_V_int {a b : Int} : decide (V.int a = V.int b) = decide (a = b) := by
  by_cases h : a = b
  · simp [h]
  · simp [h]
theorem dec_V_bl {a b : Bool} : decide (V.bl a = V.bl b) = decide (a = b) := by
  by_cases h : a = b
  · simp [h]
  · simp [h]
theorem ok_eq : R2Ok K (rEqX K) pEq := fun am Hs H n x y vx vy R Q sp rx ry h k => by
  unfold pEq pEqB at h
  split at h
  · simp only [Rep] at rx ry; subst rx ry
    exact .inl ⟨rfl, by rw [dec_V_str]; exact k.here sp h (by simp only [Rep, id])⟩
  · simp only [Rep] at rx ry; subst rx ry
    exact .inl ⟨rfl, by rw [dec_V_int]; exact k.here sp h (by simp only [Rep, id])⟩
  · simp only [Rep] at rx ry; subst rx ry
    exact .inl ⟨rfl, by rw [dec_V_bl]; exact k.here sp h (by simp only [Rep, id])⟩
  · split at h
    · rename_i d e hd he
      exact .inr ⟨d, e, dat_dp _ _ _ (Rep.mono sp.sub _ _ rx) hd, dat_dp _ _ _ (Rep.mono sp.sub _ _ ry) he, h.1, h.2.1, k.here sp h.2.2 (by simp only [Rep, id])⟩
    · exact h.elim
theorem ok_ne : R2Ok K (rNeX K) pNe := fun am Hs H n x y vx vy R Q sp rx ry h k => by
  unfold pNe pEqB at h
  split at h
  · simp only [Rep] at rx ry; subst rx ry
    exact .inl ⟨rfl, by rw [dec_V_str]; exact k.here sp h (by simp only [Rep])⟩
  · simp only [Rep] at rx ry; subst rx ry
    exact .inl ⟨rfl, by rw [dec_V_int]; exact k.here sp h (by simp only [Rep])⟩
  · simp only [Rep] at rx ry; subst rx ry
    exact .inl ⟨rfl, by rw [dec_V_bl]; exact k.here sp h (by simp only [Rep])⟩
  · split at h
    · rename_i d e hd he
      exact .inr ⟨d, e, dat_dp _ _ _ (Rep.mono sp.sub _ _ rx) hd, dat_dp _ _ _ (Rep.mono sp.sub _ _ ry) he, h.1, h.2.1, k.here sp h.2.2 (by simp only [Rep])⟩
    · exact h.elim
end
/-! ### order -/
def pOrd (gi : Int → Int → Bool) (gs : List Nat → List Nat → Bool) : G2 := fun x y R => match x, y with
  | .int i, .int j => R (.bl (gi i j))
  | .str i, .str j => R (.bl (gs i.cps.toList j.cps.toList))
  | _, _ => False
abbrev rOrdS (gs : List Nat → List Nat → Bool) : R2 := fun x y H Q => ∃ i j, x = .str i ∧ y = .str j ∧ Q (.bl (gs i.cps.toList j.cps.toList)) H
def rOrd (gi : Int → Int → Bool) (gs : List Nat → List Nat → Bool) : R2 := fun x y H Q => (rI0 fun i j => .bl (gi i j)) x y H Q ∨ rOrdS gs x y H Q
theorem ok_ord {K : PySem.W.Frag} {gi : Int → Int → Bool} {gs : List Nat → List Nat → Bool} : R2Ok K (rOrd gi gs) (pOrd gi gs) := fun am Hs H n x y vx vy R Q sp rx ry h k => by
  unfold pOrd at h
  split at h
  · simp only [Rep] at rx ry
    exact .inl ⟨_, _, rx, ry, k.here sp h (by simp only [Rep])⟩
  · simp only [Rep] at rx ry
    exact .inr ⟨_, _, rx, ry, k.here sp h (by simp only [Rep])⟩
  · exact h.elim
section
variable {X : Cx}
theorem op_ltX : OpR X (compareOp .Lt) (rOrd (fun i j => decide (i < j)) (fun i j => decide (i < j))) := op_lt.or op_lt_str
theorem op_leX : OpR X (compareOp .LtE) (rOrd (fun i j => decide (i ≤ j)) (fun i j => !decide (j < i))) := op_le.or op_le_str
theorem op_gtX : OpR X (compareOp .Gt) (rOrd (fun i j => decide (j < i)) (fun i j => decide (j < i))) := op_gt.or op_gt_str
theorem op_geX : OpR X (compareOp .GtE) (rOrd (fun i j => decide (j ≤ i)) (fun i j => !decide (i < j))) := op_ge.or op_ge_str
end
abbrev pLt : G2 := pOrd (fun i j => decide (i < j)) (fun i j => decide (i < j))
abbrev pLe : G2 := pOrd (fun i j => decide (i ≤ j)) (fun i j => !decide (j < i))
abbrev pGt : G2 := pOrd (fun i j => decide (j < i)) (fun i j => decide (j < i))
abbrev pGe : G2 := pOrd (fun i j => decide (j ≤ i)) (fun i j => !decide (i < j))
/-! ### is -/
def pIsB (f : Bool → Bool) : G2 := fun x y R => match x, y with
  | .bl a, .bl b => R (.bl (f (decide (a = b))))
  | .non, .non => R (.bl (f true))
  | _, .non => R (.bl (f false))
  | _, _ => False
def rIsB2 (f : Bool → Bool) : R2 := fun x y H Q => (fun (x y : V) (H : Hp) (Q : VK) => y = V.non ∧ Q (.bl (f (decide (x = .non)))) H) x y H Q ∨ (fun (x y : V) (H : Hp) (Q : VK) => ∃ a b, x = V.bl a ∧ y = V.bl b ∧ Q (.bl (f (decide (a = b)))) H) x y H Q
section
variable {X : Cx}
theorem op_isX : OpR X (compareOp .Is) (rIsB2 id) := op_isN.or op_is_bl
theorem op_isnX : OpR X (compareOp .IsNot) (rIsB2 not) := op_notN.or op_isnot_bl
end
theorem Rep.not_non {K : PySem.W.Frag} {am : Option Addr} {H : Hp} {t : T} {v : V} (r : Rep K am H t v) (h : t ≠ .non) : v ≠ .non := by
  intro e
  subst e
  cases t with
  | non => exact h rfl
  | bl b => simp only [Rep] at r; cases r
  | int b => simp only [Rep] at r; cases r
  | str b => simp only [Rep] at r; cases r
  | ty b => simp only [Rep] at r; cases r
  | cst b => simp only [Rep] at r; cases r
  | mach => simp only [Rep] at r; obtain ⟨_, _, q⟩ := r; cases q
  | scr b => simp only [Rep] at r; obtain ⟨_, q, _⟩ := r; cases q
  | lst b => simp only [Rep] at r; obtain ⟨_, _, q, _⟩ := r; cases q
  | tup b => simp only [Rep] at r; obtain ⟨_, _, q, _⟩ := r; cases q
  | dct b => simp only [Rep] at r; obtain ⟨_, _, q, _⟩ := r; cases q
  | obj b c => simp only [Rep] at r; obtain ⟨_, _, _, _, q, _⟩ := r; cases q
  | exc b c => simp only [Rep] at r; obtain ⟨_, _, _, _, q, _⟩ := r; cases q
  | cls b => simp only [Rep] at r; obtain ⟨_, _, q⟩ := r; cases q
theorem ok_is {K : PySem.W.Frag} {f : Bool → Bool} : R2Ok K (rIsB2 f) (pIsB f) := fun am Hs H n x y vx vy R Q sp rx ry h k => by
  unfold pIsB at h
  split at h
  · simp only [Rep] at rx ry
    exact .inr ⟨_, _, rx, ry, k.here sp h (by simp only [Rep])⟩
  · simp only [Rep] at rx ry
    exact .inl ⟨ry, k.here sp h (by simp only [Rep]; rw [rx]; rfl)⟩
  · rename_i hx
    have nn := rx.not_non (t := x) (fun e => hx e)
    simp only [Rep] at ry
    exact .inl ⟨ry, k.here sp h (by simp only [Rep]; rw [decide_eq_false nn])⟩
  · exact h.elim
end TL
namespace TL
open PySem L2
variable [Mach] [CN] [Xw]
/-! ### flat things -/
def flatT : T → Bool
  | .non => true
  | .bl _ => true
  | .int _ => true
  | .str _ => true
  | _ => false
def toV : T → V
  | .non => .non
  | .bl b => .bl b
  | .int b => .int b
  | .str b => .str b
  | _ => .non
theorem rep_flat {K : PySem.W.Frag} {am : Option Addr} {H : Hp} {t : T} {v : V} (f : flatT t = true) (r : Rep K am H t v) : v = toV t := by
  cases t with
  | non => simpa only [Rep, toV] using r
  | bl b => simpa only [Rep, toV] using r
  | int b => simpa only [Rep, toV] using r
  | str b => simpa only [Rep, toV] using r
  | _ => cases f
theorem flat_rep {K : PySem.W.Frag} {am : Option Addr} {H : Hp} {t : T} (f : flatT t = true) : Rep K am H t (toV t) := by
  cases t with
  | non => simp only [Rep, toV]
  | bl b => simp only [Rep, toV]
  | int b => simp only [Rep, toV]
  | str b => simp only [Rep, toV]
  | _ => cases f
theorem flat_toV {t : T} (f : flatT t = true) : flatV (toV t) = true := by
  cases t with
  | non => rfl
  | bl b => rfl
  | int b => rfl
  | str b => rfl
  | _ => cases f
theorem reps_flat {K : PySem.W.Frag} {am : Option Addr} {H : Hp} : ∀ {ts : List T} {vs : List V}, ts.all flatT = true → Reps K am H ts vs → vs = ts.map toV
  | [], vs, _, r => Reps.nil_iff.mp r
  | t :: ts, vs, f, r => by
    obtain ⟨v, q, rfl, h1, h2⟩ := Reps.cons_iff.mp r
    rw [List.all_cons, Bool.and_eq_true] at f
    rw [rep_flat f.1 h1, reps_flat f.2 h2]; rfl
theorem all_flat_toV : ∀ {ts : List T}, ts.all flatT = true → (ts.map toV).all flatV = true
  | [], _ => rfl
  | t :: ts, f => by
    rw [List.all_cons, Bool.and_eq_true] at f
    rw [List.map_cons, List.all_cons, Bool.and_eq_true]
    exact ⟨flat_toV f.1, all_flat_toV f.2⟩
def eqT (a b : T) : Bool := eqV (toV a) (toV b)
def inT (x : T) (xs : List T) : Bool := xs.any fun y => eqT y x
theorem inT_eq (x : T) (xs : List T) : inV (toV x) (xs.map toV) = inT x xs := by
  unfold inV inT eqT
  rw [List.any_map]; rfl
/-- one sign in a text, a text in a text -/
def strIn (a b : Str) : Bool := match a.cps.toList with
  | [c] => decide (c ∈ b.cps.toList)
  | _ => !(Builtin.Str.occurrences b a 0 b.length 1).isEmpty
def pInB (f : Bool → Bool) : G2 := fun x y R => match x, y with
  | .str a, .str b => R (.bl (f (strIn a b)))
  | x, .lst ys => flatT x = true ∧ ys.all flatT = true ∧ R (.bl (f (inT x ys)))
  | x, .tup ys => flatT x = true ∧ ys.all flatT = true ∧ R (.bl (f (inT x ys)))
  | _, _ => False
def rInG (K : PySem.W.Frag) (f : Bool → Bool) : R2 := fun x y H Q => ∃ p xs, y = .ref p ∧ (SqL K H p xs ∨ SqT K H p xs) ∧ flatV x = true ∧ xs.all flatV = true ∧ Q (.bl (f (inV x xs))) H
def rInAll (K : PySem.W.Frag) (f : Bool → Bool) : R2 := fun x y H Q => (fun (x y : V) (H : Hp) (Q : VK) => ∃ i j, x = V.str i ∧ y = V.str j ∧ Q (.bl (f (!(Builtin.Str.occurrences j i 0 j.length 1).isEmpty))) H) x y H Q ∨
  (fun (x y : V) (H : Hp) (Q : VK) => (fun (x y : V) (H : Hp) (Q : VK) => ∃ (c : Nat) (z : Str), x = V.str ⟨#[c]⟩ ∧ y = V.str z ∧ Q (.bl (f (decide (c ∈ z.cps.toList)))) H) x y H Q ∨ rInG K f x y H Q) x y H Q
section
variable {X : Cx}
theorem op_inX : OpR X (compareOp .In) (rInAll X.K id) := op_in_str.or (op_in_sign.or op_in_seq)
theorem op_ninX : OpR X (compareOp .NotIn) (rInAll X.K not) := op_notin_str.or (op_notIn_sign.or op_notIn_seq)
end
theorem str_one {a : Str} {c : Nat} (e : a.cps.toList = [c]) : a = ⟨#[c]⟩ := by
  obtain ⟨arr⟩ := a
  have e2 : arr = [c].toArray := by
    simp only at e
    rw [← e]
  rw [e2]
theorem ok_in {K : PySem.W.Frag} {f : Bool → Bool} : R2Ok K (rInAll K f) (pInB f) := fun am Hs H n x y vx vy R Q sp rx ry h k => by
  unfold pInB at h
  split at h
  · rename_i a b
    simp only [Rep] at rx ry
    subst rx ry
    unfold strIn at h
    split at h
    · rename_i c e
      exact .inr (.inl ⟨c, b, by rw [str_one e], rfl, k.here sp h (by simp only [Rep])⟩)
    · exact .inl ⟨a, b, rfl, rfl, k.here sp h (by simp only [Rep])⟩
  · rename_i ys
    have ex := rep_flat h.1 rx
    simp only [Rep] at ry
    obtain ⟨p, vs, rfl, h1, h2⟩ := ry
    have ev := reps_flat h.2.1 h2
    subst ex ev
    exact .inr (.inr ⟨p, _, rfl, .inl (SqL.of (sp.sub _ _ h1)), flat_toV h.1, all_flat_toV h.2.1, by rw [inT_eq]; exact k.here sp h.2.2 (by simp only [Rep])⟩)
  · rename_i ys
    have ex := rep_flat h.1 rx
    simp only [Rep] at ry
    obtain ⟨p, vs, rfl, h1, h2⟩ := ry
    have ev := reps_flat h.2.1 h2
    subst ex ev
    exact .inr (.inr ⟨p, _, rfl, .inr (same_sqT sp.sub h1), flat_toV h.1, all_flat_toV h.2.1, by rw [inT_eq]; exact k.here sp h.2.2 (by simp only [Rep])⟩)
  · exact h.elim
/-! ### times -/
def rMulAll : R2 := fun x y H Q => (rI CMul fun i j => .int (i * j)) x y H Q ∨ (fun (x y : V) (H : Hp) (Q : VK) => rMulS x y H Q ∨ rRep x y H Q) x y H Q
theorem foldl_app (l : List Nat) : ∀ (m : Nat) (acc : Array Nat), (List.replicate m l.toArray).foldl (· ++ ·) acc = acc ++ (List.replicate m l).flatten.toArray
  | 0, acc => by simp
  | m + 1, acc => by
    rw [List.replicate_succ, List.replicate_succ, List.foldl_cons, foldl_app l m, List.flatten_cons]
    simp
theorem strRep_fold (z : Str) (i : Int) : (⟨(List.replicate i.toNat z.cps).foldl (· ++ ·) #[]⟩ : Str) = strRep z i := by
  unfold strRep
  have h := foldl_app z.cps.toList i.toNat #[]
  simp only [Array.toArray_toList, Array.empty_append] at h
  rw [h]
theorem len_rep_flat (l : List Nat) : ∀ m : Nat, (List.replicate m l).flatten.length = m * l.length
  | 0 => by simp
  | m + 1 => by rw [List.replicate_succ, List.flatten_cons, List.length_append, len_rep_flat l m, Nat.succ_mul]; omega
theorem strRep_length (z : Str) (i : Int) : (strRep z i).length = i.toNat * z.length := by
  show (List.replicate i.toNat z.cps.toList).flatten.toArray.size = i.toNat * z.cps.size
  rw [List.size_toArray, len_rep_flat, Array.length_toList]
section
variable {X : Cx}
theorem op_mulS : OpR X (binaryOp .Mult) rMulS := by
  intro pins s σ H x y v u Q I rx ry h
  obtain ⟨z, i, rfl, rfl, h0, h1, h2, q⟩ := h
  obtain ⟨t, rfl⟩ := rx
  obtain ⟨t', rfl⟩ := ry
  have hs : z.length * i.toNat ≤ sizeLine := Nat.le_trans (Nat.mul_le_mul h2 (show i.toNat ≤ 1000 by omega)) (by decide)
  refine PySem.P.mul_str (by simp; omega) ?_ ?_ ?_
  · intro hp _
    have a1 : (9223372036854775 : Int) ≤ (2 ^ 63 - 1 : Int) / i := Int.le_ediv_of_mul_le (by omega) (by omega)
    omega
  · intro _ _
    show decide (z.length * i.toNat > sizeLine) = false
    exact decide_eq_false (by omega)
  · have fin : ∀ (r : Str), r = strRep z i → ∀ tk (st : Shared), Inv X pins σ H st → EP X pins σ Q (.str r tk) st := fun r e tk st J => ⟨.str r, H, J, ⟨tk, rfl⟩, by rw [e]; exact q⟩
    by_cases c1 : i < 1
    · rw [if_pos c1]
      refine ⟨by decide, fin _ ?_ _ _ (I.tok _)⟩
      have : i.toNat = 0 := by omega
      unfold strRep
      rw [this]; rfl
    · rw [if_neg c1]
      by_cases c2 : (i == 1 || z.length == 0) = true
      · rw [if_pos c2]
        refine fin _ ?_ _ _ I
        rcases Bool.or_eq_true_iff.mp c2 with c3 | c3
        · have e : i = 1 := by simpa using c3
          subst e
          unfold strRep
          simp
        · have e : z.cps.size = 0 := by simpa [Str.length] using c3
          have e2 : z = ⟨#[]⟩ := by
            obtain ⟨arr⟩ := z
            have : arr = #[] := Array.size_eq_zero_iff.mp e
            rw [this]
          subst e2
          unfold strRep
          simp
      · rw [if_neg c2]
        have e := strRep_fold z i
        refine ⟨?_, fin _ e _ _ (I.tok _)⟩
        rw [e, strRep_length, Nat.mul_comm]
        exact hs
theorem op_mulX : OpR X (binaryOp .Mult) rMulAll := op_mul.or (op_mulS.or op_rep)
end
def pMul : G2 := fun x y R => match x, y with
  | .int i, .int j => CMul i j ∧ R (.int (i * j))
  | .str z, .int i => (0 ≤ i ∧ i ≤ 1000 ∧ z.length ≤ 1000) ∧ R (.str (strRep z i))
  | .lst xs, .int i => (0 ≤ i ∧ i ≤ 100000 ∧ xs.length ≤ 100) ∧ R (.lst (List.replicate i.toNat xs).flatten)
  | _, _ => False
theorem ok_mul {K : PySem.W.Frag} : R2Ok K rMulAll pMul := fun am Hs H n x y vx vy R Q sp rx ry h k => by
  unfold pMul at h
  split at h
  · simp only [Rep] at rx ry
    exact .inl ⟨_, _, rx, ry, h.1, k.here sp h.2 (by simp only [Rep])⟩
  · simp only [Rep] at rx ry
    exact .inr (.inl ⟨_, _, rx, ry, h.1.1, h.1.2.1, h.1.2.2, k.here sp h.2 (by simp only [Rep])⟩)
  · rename_i xs i
    simp only [Rep] at rx ry
    obtain ⟨p, vs, rfl, h1, h2⟩ := rx
    obtain ⟨c1, c2, c3⟩ := h.1
    have hz : vs.length * i.toNat ≤ sizeLine := by
      rw [← h2.length]
      exact Nat.le_trans (Nat.mul_le_mul c3 (show i.toNat ≤ 100000 by omega)) (by decide)
    exact .inr (.inr ⟨p, i, vs, rfl, ry, sp.sub _ _ h1, by omega, by omega, hz, fun q hq => k.lay sp h.2 hq _ (rep_lst_new sp hq h2.flat)⟩)
  · exact h.elim
/-! ### calls of built-ins -/
def pLen : GN := fun xs R => match xs with
  | [.str x] => x.length ≤ sizeLine ∧ R (.int x.length)
  | [.lst x] => R (.int x.length)
  | [.tup x] => R (.int x.length)
  | [.scr x] => R (.int x.length)
  | _ => False
theorem ok_len {K : PySem.W.Frag} : RNOk K (fun xs H Q => ∃ x n, xs = [x] ∧ LenV K x H n ∧ Q (.int n) H) pLen := fun am Hs H n x vx R Q sp rx h k => by
  unfold pLen at h
  split at h
  · obtain ⟨v, r, rfl, h1, h2⟩ := Reps.cons_iff.mp rx
    rw [Reps.nil_iff.mp h2]
    simp only [Rep] at h1; subst h1
    exact ⟨_, _, rfl, ⟨h.1, rfl⟩, k.here sp h.2 (by simp only [Rep])⟩
  · obtain ⟨v, r, rfl, h1, h2⟩ := Reps.cons_iff.mp rx
    rw [Reps.nil_iff.mp h2]
    simp only [Rep] at h1
    obtain ⟨p, vs, rfl, h3, h4⟩ := h1
    exact ⟨_, _, rfl, .inl ⟨vs, SqL.of (sp.sub _ _ h3), rfl⟩, k.here sp h (by simp only [Rep]; rw [h4.length])⟩
  · obtain ⟨v, r, rfl, h1, h2⟩ := Reps.cons_iff.mp rx
    rw [Reps.nil_iff.mp h2]
    simp only [Rep] at h1
    obtain ⟨p, vs, rfl, h3, h4⟩ := h1
    exact ⟨_, _, rfl, .inr ⟨vs, same_sqT sp.sub h3, rfl⟩, k.here sp h (by simp only [Rep]; rw [h4.length])⟩
  · obtain ⟨v, r, rfl, h1, h2⟩ := Reps.cons_iff.mp rx
    rw [Reps.nil_iff.mp h2]
    simp only [Rep] at h1
    obtain ⟨p, rfl, h3⟩ := h1
    exact ⟨_, _, rfl, .inl ⟨_, same_sqL sp.sub h3, rfl⟩, k.here sp h (by simp only [Rep]; rw [List.length_map])⟩
  · exact h.elim
def pInt1 : GN := fun xs R => match xs with
  | [.int i] => R (.int i)
  | [.bl b] => R (.int (if b then 1 else 0))
  | _ => False
theorem ok_int1 {K : PySem.W.Frag} : RNOk K (fun xs H Q => (∃ i, xs = [V.int i] ∧ Q (.int i) H) ∨ ∃ k, xs = [V.bl k] ∧ Q (.int (if k then 1 else 0)) H) pInt1 := fun am Hs H n x vx R Q sp rx h k => by
  unfold pInt1 at h
  split at h
  · obtain ⟨v, r, rfl, h1, h2⟩ := Reps.cons_iff.mp rx
    rw [Reps.nil_iff.mp h2]
    simp only [Rep] at h1; subst h1
    exact .inl ⟨_, rfl, k.here sp h (by simp only [Rep])⟩
  · obtain ⟨v, r, rfl, h1, h2⟩ := Reps.cons_iff.mp rx
    rw [Reps.nil_iff.mp h2]
    simp only [Rep] at h1; subst h1
    exact .inr ⟨_, rfl, k.here sp h (by simp only [Rep])⟩
  · exact h.elim
def pStr1 : GN := fun xs R => match xs with
  | [.int i] => i.natAbs.log2 < 1920 ∧ R (.str (toString i))
  | _ => False
theorem ok_str1 {K : PySem.W.Frag} : RNOk K (fun xs H Q => ∃ i : Int, xs = [V.int i] ∧ i.natAbs.log2 < 1920 ∧ Q (.str (toString i)) H) pStr1 := fun am Hs H n x vx R Q sp rx h k => by
  unfold pStr1 at h
  split at h
  · obtain ⟨v, r, rfl, h1, h2⟩ := Reps.cons_iff.mp rx
    rw [Reps.nil_iff.mp h2]
    simp only [Rep] at h1; subst h1
    exact ⟨_, rfl, h.1, k.here sp h.2 (by simp only [Rep])⟩
  · exact h.elim
/-- a list of truths -/
def blsOf : List T → Option (List Bool)
  | [] => some []
  | .bl b :: r => (blsOf r).map (b :: ·)
  | _ :: _ => none
theorem blsOf_map : ∀ {ts : List T} {bs : List Bool}, blsOf ts = some bs → ts = bs.map T.bl
  | [], bs, e => by cases e; rfl
  | .bl b :: r, bs, e => by
    simp only [blsOf] at e
    cases q : blsOf r with
    | none => rw [q] at e; cases e
    | some cs => rw [q] at e; cases e; rw [blsOf_map q]; rfl
  | .non :: _, _, e => by cases e
  | .int _ :: _, _, e => by cases e
  | .str _ :: _, _, e => by cases e
  | .ty _ :: _, _, e => by cases e
  | .mach :: _, _, e => by cases e
  | .cst _ :: _, _, e => by cases e
  | .scr _ :: _, _, e => by cases e
  | .lst _ :: _, _, e => by cases e
  | .tup _ :: _, _, e => by cases e
  | .dct _ :: _, _, e => by cases e
  | .obj _ _ :: _, _, e => by cases e
  | .exc _ _ :: _, _, e => by cases e
  | .cls _ :: _, _, e => by cases e
theorem blsOf_of (bs : List Bool) : blsOf (bs.map T.bl) = some bs := by
  induction bs with
  | nil => rfl
  | cons b r ih => simp only [List.map_cons, blsOf, ih, Option.map_some]
def pAllAny (g : List Bool → Bool) : GN := fun xs R => match xs with
  | [.lst ts] => match blsOf ts with
    | some bs => R (.bl (g bs))
    | none => False
  | _ => False
theorem ok_all {K : PySem.W.Frag} {g : List Bool → Bool} : RNOk K (fun vs H Q => ∃ (a : Addr) (bs : List Bool), vs = [V.ref a] ∧ SqL K H a (bs.map V.bl) ∧ Q (.bl (g bs)) H) (pAllAny g) := fun am Hs H n x vx R Q sp rx h k => by
  unfold pAllAny at h
  split at h
  · split at h
    · rename_i ts _ bs e
      obtain ⟨v, r, rfl, h1, h2⟩ := Reps.cons_iff.mp rx
      rw [Reps.nil_iff.mp h2]
      simp only [Rep] at h1
      obtain ⟨p, vs, rfl, h3, h4⟩ := h1
      rw [blsOf_map e] at h4
      have ev := h4.bls
      subst ev
      exact ⟨p, bs, rfl, SqL.of (sp.sub _ _ h3), k.here sp h (by simp only [Rep])⟩
    · exact h.elim
  · exact h.elim
def pMM (g : Int → Int → Int) : GN := fun xs R => match xs with
  | [.int i, .int j] => R (.int (g i j))
  | _ => False
theorem ok_mm {K : PySem.W.Frag} {g : Int → Int → Int} : RNOk K (fun xs H Q => ∃ i j, xs = [V.int i, V.int j] ∧ Q (.int (g i j)) H) (pMM g) := fun am Hs H n x vx R Q sp rx h k => by
  unfold pMM at h
  split at h
  · obtain ⟨v, r, rfl, h1, h2⟩ := Reps.cons_iff.mp rx
    obtain ⟨v', r', rfl, h3, h4⟩ := Reps.cons_iff.mp h2
    rw [Reps.nil_iff.mp h4]
    simp only [Rep] at h1 h3; subst h1 h3
    exact ⟨_, _, rfl, k.here sp h (by simp only [Rep])⟩
  · exact h.elim
abbrev pMin2 : GN := pMM fun i j => if j < i then j else i
abbrev pMax2 : GN := pMM fun i j => if j > i then j else i
/-- list(..), tuple(..) -/
def pListOf : GN := fun xs R => match xs with
  | [.lst ts] => R (.lst ts)
  | [.tup ts] => R (.lst ts)
  | [.scr ns] => R (.lst (ns.map T.int))
  | _ => False
theorem ok_listOf {K : PySem.W.Frag} : RNOk K (fun xs H Q => ∃ p ys, xs = [V.ref p] ∧ (SqL K H p ys ∨ SqT K H p ys) ∧ ∀ l, H l = none → Q (.ref l) (upd H l (.lst ys))) pListOf := fun am Hs H n x vx R Q sp rx h k => by
  unfold pListOf at h
  split at h
  · obtain ⟨v, r, rfl, h1, h2⟩ := Reps.cons_iff.mp rx
    rw [Reps.nil_iff.mp h2]
    simp only [Rep] at h1
    obtain ⟨p, vs, rfl, h3, h4⟩ := h1
    exact ⟨p, vs, rfl, .inl (SqL.of (sp.sub _ _ h3)), fun l hl => k.lay sp h hl _ (rep_lst_new sp hl h4)⟩
  · obtain ⟨v, r, rfl, h1, h2⟩ := Reps.cons_iff.mp rx
    rw [Reps.nil_iff.mp h2]
    simp only [Rep] at h1
    obtain ⟨p, vs, rfl, h3, h4⟩ := h1
    exact ⟨p, vs, rfl, .inr (same_sqT sp.sub h3), fun l hl => k.lay sp h hl _ (rep_lst_new sp hl h4)⟩
  · obtain ⟨v, r, rfl, h1, h2⟩ := Reps.cons_iff.mp rx
    rw [Reps.nil_iff.mp h2]
    simp only [Rep] at h1
    obtain ⟨p, rfl, h3⟩ := h1
    exact ⟨p, _, rfl, .inl (same_sqL sp.sub h3), fun l hl => k.lay sp h hl _ (rep_lst_new sp hl reps_ints)⟩
  · exact h.elim
def pTupOf : GN := fun xs R => match xs with
  | [.lst ts] => R (.tup ts)
  | [.tup ts] => R (.tup ts)
  | _ => False
theorem ok_tupOf {K : PySem.W.Frag} : RNOk K (fun xs H Q => ∃ p ys, xs = [V.ref p] ∧ ((SqL K H p ys ∧ ∀ l, H l = none → Q (.ref l) (upd H l (.tup ys))) ∨ (SqT K H p ys ∧ Q (.ref p) H))) pTupOf := fun am Hs H n x vx R Q sp rx h k => by
  unfold pTupOf at h
  split at h
  · obtain ⟨v, r, rfl, h1, h2⟩ := Reps.cons_iff.mp rx
    rw [Reps.nil_iff.mp h2]
    simp only [Rep] at h1
    obtain ⟨p, vs, rfl, h3, h4⟩ := h1
    exact ⟨p, vs, rfl, .inl ⟨SqL.of (sp.sub _ _ h3), fun l hl => k.lay sp h hl _ (rep_tup_new sp hl h4)⟩⟩
  · obtain ⟨v, r, rfl, h1, h2⟩ := Reps.cons_iff.mp rx
    rw [Reps.nil_iff.mp h2]
    have h0 := h1
    simp only [Rep] at h1
    obtain ⟨p, vs, rfl, h3, h4⟩ := h1
    exact ⟨p, vs, rfl, .inr ⟨same_sqT sp.sub h3, k.here sp h h0⟩⟩
  · exact h.elim
end TL
namespace TL
open PySem L2
variable [Mach] [CN] [Xw]
/-! ### tests -/
def wB (f : WE) : WT := fun ts n R => f ts n fun x n1 => match x with
  | .bl c => R c n1
  | _ => False
def truT : T → (Bool → Prop) → Prop := fun x R => match x with
  | .non => R false
  | .bl c => R c
  | .int i => R (i != 0)
  | .str y => y.length ≤ sizeLine ∧ R ((y.length : Int) != 0)
  | .lst xs => R (!xs.isEmpty)
  | .tup xs => R (!xs.isEmpty)
  | _ => False
def wTru (f : WE) : WT := fun ts n R => f ts n fun x n1 => truT x fun c => R c n1
def wTAnd (f g : WT) : WT := fun ts n R => f ts n fun c n1 => if c = true then g ts n1 R else R false n1
def wTOr (f g : WT) : WT := fun ts n R => f ts n fun c n1 => if c = true then R true n1 else g ts n1 R
def wTNot (f : WT) : WT := fun ts n R => f ts n fun c n1 => R (!c) n1
def wIf (t : WT) (fa fb : WE) : WE := fun ts n R => t ts n fun c n1 => if c = true then fa ts n1 R else fb ts n1 R
def wAndV (fa fb : WE) : WE := fun ts n R => fa ts n fun x n1 => match x with
  | .bl c => if c = true then fb ts n1 R else R (.bl false) n1
  | _ => False
def wOrV (fa fb : WE) : WE := fun ts n R => fa ts n fun x n1 => match x with
  | .bl c => if c = true then R (.bl true) n1 else fb ts n1 R
  | _ => False
def wNotV (fa : WE) : WE := fun ts n R => fa ts n fun x n1 => match x with
  | .bl c => R (.bl (!c)) n1
  | _ => False
abbrev QW (X : Cx) (e : Expr) (f : WT) : Prop := PW X e (tTT X.K f)
theorem PW.imp {X : Cx} {e : Expr} {t u : TT} (h : PW X e t) (k : ∀ σ H Q, u σ H Q → t σ H Q) : PW X e u := ⟨fun w pins s σ H Q I q => h.run w pins s σ H Q I (k σ H Q q)⟩
section
variable {X : Cx} {a b c e : Expr} {rest : List Expr} {fa fb f : WE} {t u : WT} {pos : Pos}
theorem qt_val (h : QE X e f) (he : ∀ whole, isTrue e X.env whole = (do let v ← whole; standAt e.pos; holding [v] (truthy v)) := by intro _; rfl) : QT X e (wB f) := PT.imp (pt_val h he) fun σ H Q ⟨am, Hs, ts, n, R, sp, re, h, k⟩ => by
  refine ⟨am, Hs, ts, n, _, sp, re, h, fun x n1 hx vx Hs1 H1 e1 rx => ?_⟩
  cases x with
  | bl c =>
    simp only [Rep] at rx
    exact ⟨c, rx, k c n1 hx Hs1 H1 e1⟩
  | _ => exact hx.elim
theorem qt_cmp {op : CmpOp} {r : R2} {g : G2} (ho : OpR X (compareOp op) r) (hg : R2Ok X.K r g) (hm : behindInMarks op b = false) (ha : QE X a fa) (hb : QE X b fb) : QT X (.Compare a [op] [b] pos) (wB (w2 g fa fb)) := PT.imp (pt_cmpR ho ha hb hm) fun σ H Q ⟨am, Hs, ts, n, R, sp, re, h, k⟩ => by
  refine tT_bin (g := fun x y n R => g x y fun z => R z n) (fun am Hs H n x y vx vy R Q sp rx ry hg' k => hg am Hs H n x y vx vy _ Q sp rx ry hg' fun z hz v Hs' H' e r => k z n hz v Hs' H' e r) ?_
  refine ⟨am, Hs, ts, n, _, sp, re, h, fun x n1 hx vx Hs1 H1 e1 rx => ?_⟩
  cases x with
  | bl c =>
    simp only [Rep] at rx
    exact ⟨c, rx, k c n1 hx Hs1 H1 e1⟩
  | _ => exact hx.elim
theorem tru_ok2 {K : PySem.W.Frag} {am : Option Addr} {Hs H : Hp} {x : T} {v : V} {R : Bool → Prop} (s : Same Hs H) (r : Rep K am Hs x v) (h : truT x R) : ∃ k, TruV K v H k ∧ R k := by
  cases x with
  | non => simp only [Rep] at r; subst r; exact ⟨false, rfl, h⟩
  | bl c => simp only [Rep] at r; subst r; exact ⟨c, rfl, h⟩
  | int c => simp only [Rep] at r; subst r; exact ⟨_, rfl, h⟩
  | str c => simp only [Rep] at r; subst r; exact ⟨_, ⟨h.1, rfl⟩, h.2⟩
  | lst c =>
    simp only [Rep] at r
    obtain ⟨a, vs, rfl, h1, h2⟩ := r
    refine ⟨_, .inl ⟨vs, SqL.of (s _ _ h1), rfl⟩, ?_⟩
    have e : vs.isEmpty = c.isEmpty := by
      have := h2.length
      cases vs <;> cases c <;> simp_all
    rw [e]; exact h
  | tup c =>
    simp only [Rep] at r
    obtain ⟨a, vs, rfl, h1, h2⟩ := r
    refine ⟨_, .inr (.inl ⟨vs, same_sqT s h1, rfl⟩), ?_⟩
    have e : vs.isEmpty = c.isEmpty := by
      have := h2.length
      cases vs <;> cases c <;> simp_all
    rw [e]; exact h
  | _ => exact h.elim
theorem qt_tru (h : QE X e f) (he : ∀ whole, isTrue e X.env whole = (do let v ← whole; standAt e.pos; holding [v] (truthy v)) := by intro _; rfl) : QT X e (wTru f) := PT.imp (pt_truth h he) fun σ H Q ⟨am, Hs, ts, n, R, sp, re, h, k⟩ => by
  refine ⟨am, Hs, ts, n, _, sp, re, h, fun x n1 hx vx Hs1 H1 e1 rx => ?_⟩
  obtain ⟨c, h1, h2⟩ := tru_ok2 e1.spl.sub rx hx
  exact ⟨c, h1, k c n1 h2 Hs1 H1 e1⟩
theorem qw_and1 (ha : QT X a t) : QW X (.BoolOp .And [a] pos) t := pw_and1 ha
theorem qw_or1 (ha : QT X a t) : QW X (.BoolOp .Or [a] pos) t := pw_or1 ha
theorem qw_and (ha : QT X a t) (hb : QW X (.BoolOp .And (b :: rest) pos) u) : QW X (.BoolOp .And (a :: b :: rest) pos) (wTAnd t u) := PW.imp (pw_and ha hb) fun σ H Q ⟨am, Hs, ts, n, R, sp, re, h, k⟩ => by
  refine ⟨am, Hs, ts, n, _, sp, re, h, fun c n1 hc Hs1 H1 e1 => ?_⟩
  cases c with
  | true => exact iteT ⟨am, Hs1, ts, n1, R, e1.spl, re.ext e1, hc, fun d n2 hd Hs2 H2 e2 => k d n2 hd Hs2 H2 (e1.trans e2)⟩
  | false => exact iteF (k false n1 hc Hs1 H1 e1)
theorem qw_or (ha : QT X a t) (hb : QW X (.BoolOp .Or (b :: rest) pos) u) : QW X (.BoolOp .Or (a :: b :: rest) pos) (wTOr t u) := PW.imp (pw_or ha hb) fun σ H Q ⟨am, Hs, ts, n, R, sp, re, h, k⟩ => by
  refine ⟨am, Hs, ts, n, _, sp, re, h, fun c n1 hc Hs1 H1 e1 => ?_⟩
  cases c with
  | true => exact iteT (k true n1 hc Hs1 H1 e1)
  | false => exact iteF ⟨am, Hs1, ts, n1, R, e1.spl, re.ext e1, hc, fun d n2 hd Hs2 H2 e2 => k d n2 hd Hs2 H2 (e1.trans e2)⟩
theorem qt_bool (h : QW X e t) : QT X e t := h.pt
theorem qt_not (ha : QT X a t) : QT X (.UnaryOp .Not a pos) (wTNot t) := PT.imp (pt_not ha) fun σ H Q ⟨am, Hs, ts, n, R, sp, re, h, k⟩ =>
  ⟨am, Hs, ts, n, _, sp, re, h, fun c n1 hc Hs1 H1 e1 => k (!c) n1 hc Hs1 H1 e1⟩
theorem q_ifExp (hc : QT X c t) (ha : QE X a fa) (hb : QE X b fb) : QE X (.IfExp c a b pos) (wIf t fa fb) := PE.imp (pe_ifExp hc ha hb) fun σ H Q ⟨am, Hs, ts, n, R, sp, re, h, k⟩ => by
  refine ⟨am, Hs, ts, n, _, sp, re, h, fun c n1 hc Hs1 H1 e1 => ?_⟩
  cases c with
  | true => exact iteT ⟨am, Hs1, ts, n1, R, e1.spl, re.ext e1, hc, fun d n2 hd v Hs2 H2 e2 r => k d n2 hd v Hs2 H2 (e1.trans e2) r⟩
  | false => exact iteF ⟨am, Hs1, ts, n1, R, e1.spl, re.ext e1, hc, fun d n2 hd v Hs2 H2 e2 r => k d n2 hd v Hs2 H2 (e1.trans e2) r⟩
theorem q_one {op} (h : QE X a f) : QE X (.BoolOp op [a] pos) f := pe_one h
theorem q_and (ha : QE X a fa) (hb : QE X (.BoolOp .And (b :: rest) pos) fb) : QE X (.BoolOp .And (a :: b :: rest) pos) (wAndV fa fb) := PE.imp (pe_and ha hb) fun σ H Q ⟨am, Hs, ts, n, R, sp, re, h, k⟩ => by
  refine ⟨am, Hs, ts, n, _, sp, re, h, fun x n1 hx vx Hs1 H1 e1 rx => ?_⟩
  cases x with
  | bl c =>
    simp only [Rep] at rx
    refine ⟨c, rx, ?_⟩
    cases c with
    | true => exact iteT ⟨am, Hs1, ts, n1, R, e1.spl, re.ext e1, hx, fun d n2 hd v Hs2 H2 e2 r => k d n2 hd v Hs2 H2 (e1.trans e2) r⟩
    | false => exact iteF (k _ n1 hx _ Hs1 H1 e1 (by simp only [Rep]))
  | _ => exact hx.elim
theorem q_or (ha : QE X a fa) (hb : QE X (.BoolOp .Or (b :: rest) pos) fb) : QE X (.BoolOp .Or (a :: b :: rest) pos) (wOrV fa fb) := PE.imp (pe_or ha hb) fun σ H Q ⟨am, Hs, ts, n, R, sp, re, h, k⟩ => by
  refine ⟨am, Hs, ts, n, _, sp, re, h, fun x n1 hx vx Hs1 H1 e1 rx => ?_⟩
  cases x with
  | bl c =>
    simp only [Rep] at rx
    refine ⟨c, rx, ?_⟩
    cases c with
    | true => exact iteT (k _ n1 hx _ Hs1 H1 e1 (by simp only [Rep]))
    | false => exact iteF ⟨am, Hs1, ts, n1, R, e1.spl, re.ext e1, hx, fun d n2 hd v Hs2 H2 e2 r => k d n2 hd v Hs2 H2 (e1.trans e2) r⟩
  | _ => exact hx.elim
theorem q_not (ha : QE X a fa) : QE X (.UnaryOp .Not a pos) (wNotV fa) := PE.imp (pe_not ha) fun σ H Q ⟨am, Hs, ts, n, R, sp, re, h, k⟩ => by
  refine ⟨am, Hs, ts, n, _, sp, re, h, fun x n1 hx vx Hs1 H1 e1 rx => ?_⟩
  cases x with
  | bl c =>
    simp only [Rep] at rx
    exact ⟨c, rx, k _ n1 hx _ Hs1 H1 e1 (by simp only [Rep])⟩
  | _ => exact hx.elim
end
/-! ### places of sequences, slices -/
theorem Reps.atI {K : PySem.W.Frag} {am : Option Addr} {H : Hp} {ts : List T} {vs : List V} {i : Int} {t : T} (r : Reps K am H ts vs) (e : L2.atI ts i = some t) : ∃ v, L2.atI vs i = some v ∧ Rep K am H t v := by
  unfold L2.atI at e ⊢
  rw [← r.length]
  cases q : ixN ts.length i with
  | none => rw [q] at e; cases e
  | some j =>
    rw [q] at e
    exact r.get (show ts[j]? = some t from e)
def pIx : G2 := fun x y R => match x, y with
  | .lst xs, .int i => match L2.atI xs i with
    | some t => R t
    | none => False
  | .tup xs, .int i => match L2.atI xs i with
    | some t => R t
    | none => False
  | .str z, .int i => z.length ≤ sizeLine ∧ match L2.atI z.cps.toList i with
    | some c => R (.str ⟨#[c]⟩)
    | none => False
  | .scr ns, .int i => match L2.atI ns i with
    | some t => R (.int t)
    | none => False
  | _, _ => False
theorem atI_map {α β : Type} {f : α → β} {xs : List α} {i : Int} {t : α} (e : L2.atI xs i = some t) : L2.atI (xs.map f) i = some (f t) := by
  unfold L2.atI at e ⊢
  rw [List.length_map]
  cases q : ixN xs.length i with
  | none => rw [q] at e; cases e
  | some j =>
    rw [q] at e
    have e' : xs[j]? = some t := e
    show (xs.map f)[j]? = some (f t)
    rw [List.getElem?_map, e']; rfl
theorem ok_ix {K : PySem.W.Frag} : R2Ok K (rIx K) pIx := fun am Hs H n x y vx vy R Q sp rx ry h k => by
  unfold pIx at h
  split at h
  · split at h
    · rename_i t e
      simp only [Rep] at rx ry
      obtain ⟨p, vs, rfl, h1, h2⟩ := rx
      obtain ⟨v, h3, h4⟩ := h2.atI e
      exact .inl ⟨p, vs, _, v, rfl, ry, SqL.of (sp.sub _ _ h1), h3, k.here sp h h4⟩
    · exact h.elim
  · split at h
    · rename_i t e
      simp only [Rep] at rx ry
      obtain ⟨p, vs, rfl, h1, h2⟩ := rx
      obtain ⟨v, h3, h4⟩ := h2.atI e
      exact .inr (.inl ⟨p, vs, _, v, rfl, ry, same_sqT sp.sub h1, h3, k.here sp h h4⟩)
    · exact h.elim
  · obtain ⟨h0, h⟩ := h
    split at h
    · rename_i c e
      simp only [Rep] at rx ry
      exact .inr (.inr ⟨_, _, c, rx, ry, h0, e, k.here sp h (by simp only [Rep])⟩)
    · exact h.elim
  · split at h
    · rename_i t e
      simp only [Rep] at rx ry
      obtain ⟨p, rfl, h1⟩ := rx
      exact .inl ⟨p, _, _, .int t, rfl, ry, same_sqL sp.sub h1, atI_map e, k.here sp h (by simp only [Rep])⟩
    · exact h.elim
  · exact h.elim
abbrev WO := Env → Nat → (Option Int → Nat → Prop) → Prop
def tTO (K : PySem.W.Frag) (f : WO) : TO := fun σ H Q => ∃ (am : Option Addr) (Hs : Hp) (ts : Env) (n : Nat) (R : Option Int → Nat → Prop), Spl am Hs H n ∧ RepE K am Hs H σ ts ∧ f ts n R ∧
  ∀ r n', R r n' → ∀ Hs' H', Ext am Hs H Hs' H' n' → Q r H'
abbrev QO (X : Cx) (e : Option Expr) (f : WO) : Prop := PO X e (tTO X.K f)
theorem PO.imp {X : Cx} {e : Option Expr} {t u : TO} (h : PO X e t) (k : ∀ σ H Q, u σ H Q → t σ H Q) : PO X e u := ⟨fun pins s σ H Q I q => h.run pins s σ H Q I (k σ H Q q)⟩
def wNoPart : WO := fun _ n R => R none n
def wPart (f : WE) : WO := fun ts n R => f ts n fun x n1 => match x with
  | .int i => R (some i) n1
  | _ => False
def cutT (xs : List T) (lo hi : Option Int) : List T := (xs.drop (HT.sIx xs.length 0 lo)).take (HT.sIx xs.length xs.length hi - HT.sIx xs.length 0 lo)
def pSl (x : T) (lo hi : Option Int) (R : T → Prop) : Prop := match x with
  | .str z => z.length ≤ sizeLine ∧ R (.str (cutS z lo hi))
  | .lst xs => R (.lst (cutT xs lo hi))
  | .tup xs => R (.tup (cutT xs lo hi))
  | _ => False
def wSl (fe : WE) (fl fh : WO) : WE := fun ts n R => fe ts n fun x n1 => fl ts n1 fun l n2 => fh ts n2 fun u n3 => pSl x l u fun z => R z n3
def rSlX (K : PySem.W.Frag) : V → Option Int → Option Int → Hp → VK → Prop := fun x lo hi H Q => rSlS x lo hi H Q ∨ (fun x lo hi H Q => rSlL K x lo hi H Q ∨ rSlA K x lo hi H Q) x lo hi H Q
section
variable {X : Cx} {e : Expr} {f fe : WE} {fl fh : WO} {lo hi : Option Expr} {pos p2 : Pos}
theorem qo_none : QO X none wNoPart := PO.imp po_none fun σ H Q ⟨am, Hs, ts, n, R, sp, re, h, k⟩ => k none n h Hs H (Ext.refl sp)
theorem qo_some (h : QE X e f) : QO X (some e) (wPart f) := PO.imp (po_some h) fun σ H Q ⟨am, Hs, ts, n, R, sp, re, h, k⟩ => by
  refine ⟨am, Hs, ts, n, _, sp, re, h, fun x n1 hx vx Hs1 H1 e1 rx => ?_⟩
  cases x with
  | int i => simp only [Rep] at rx; exact ⟨i, rx, k _ n1 hx Hs1 H1 e1⟩
  | _ => exact hx.elim
theorem sl_all : SlR X (rSlX X.K) := sl_str.or (sl_list.or sl_tupA)
theorem cutT_all {xs : List T} {lo hi : Option Int} (h1 : HT.sIx xs.length 0 lo = 0) (h2 : HT.sIx xs.length xs.length hi = xs.length) : cutT xs lo hi = xs := by
  unfold cutT
  rw [h1, h2]; simp
theorem q_slice (he : QE X e fe) (hl : QO X lo fl) (hu : QO X hi fh) : QE X (.Subscript e (.Slice lo hi none p2) pos) (wSl fe fl fh) := PE.imp (pe_slice sl_all he hl hu) fun σ H Q ⟨am, Hs, ts, n, R, sp, re, h, k⟩ => by
  refine ⟨am, Hs, ts, n, _, sp, re, h, fun x n1 hx vx Hs1 H1 e1 rx => ⟨am, Hs1, ts, n1, _, e1.spl, re.ext e1, hx, fun l n2 hl Hs2 H2 e2 => ⟨am, Hs2, ts, n2, _, e2.spl, re.ext (e1.trans e2), hl, fun u n3 hu Hs3 H3 e3 => ?_⟩⟩⟩
  have rx3 := Rep.mono (e2.same.trans e3.same) _ _ rx
  have k3 : Done X.K am Hs3 H3 n3 (fun z => R z n3) Q := fun z hz v Hs' H' e4 r => k z n3 hz v Hs' H' (((e1.trans e2).trans e3).trans e4) r
  have sp3 := e3.spl
  cases x with
  | str z => simp only [Rep] at rx3; exact .inl ⟨z, rx3, hu.1, k3.here sp3 hu.2 (by simp only [Rep])⟩
  | lst xs =>
    simp only [Rep] at rx3
    obtain ⟨p, vs, rfl, h1, h2⟩ := rx3
    refine .inr (.inl ⟨p, vs, rfl, SqL.of (sp3.sub _ _ h1), fun q hq => k3.lay sp3 hu hq _ (rep_lst_new sp3 hq ?_)⟩)
    unfold cutT cutV
    rw [← h2.length]
    exact (h2.drop _).take _
  | tup xs =>
    have rx4 := rx3
    simp only [Rep] at rx3
    obtain ⟨p, vs, rfl, h1, h2⟩ := rx3
    refine .inr (.inr ⟨p, vs, rfl, same_sqT sp3.sub h1, fun hq => ?_, fun _ q hq => k3.lay sp3 hu hq _ (rep_tup_new sp3 hq ?_)⟩)
    · rw [← h2.length] at hq
      have hu' : R (.tup (cutT xs l u)) n3 := hu
      rw [cutT_all hq.1 hq.2] at hu'
      exact k3.here sp3 hu' rx4
    · unfold cutT cutV
      rw [← h2.length]
      exact (h2.drop _).take _
  | _ => exact hu.elim
end
end TL
namespace TL
open PySem L2
variable [Mach] [CN] [Xw]
/-! ### methods of built-in types -/
def kdStr : T → Prop
  | .str _ => True
  | _ => False
def kdLst : T → Prop
  | .lst _ => True
  | _ => False
def KdOk (K : PySem.W.Frag) (ty : String) (kd : T → Prop) : Prop := ∀ (am : Option Addr) (Hs H : Hp) (x : T) (v : V), Same Hs H → Rep K am Hs x v → kd x → tyV K ty v H
theorem kd_str {K : PySem.W.Frag} : KdOk K "str" kdStr := fun am Hs H x v s r k => by
  cases x with
  | str z => simp only [Rep] at r; subst r; exact rfl
  | _ => exact k.elim
theorem kd_lst {K : PySem.W.Frag} : KdOk K "list" kdLst := fun am Hs H x v s r k => by
  cases x with
  | lst z =>
    simp only [Rep] at r
    obtain ⟨a, vs, rfl, h1, h2⟩ := r
    exact .inl ⟨rfl, vs, SqL.of (s _ _ h1)⟩
  | _ => exact k.elim
def wMk (kd : T → Prop) (g : T → GN) (fo : WE) (fa : WA) : WE := fun ts n R => fo ts n fun x n1 => kd x ∧ fa ts n1 fun xs n2 => g x xs fun z => R z n2
def wMk0 (kd : T → Prop) (g : T → GN) (fo : WE) : WE := fun ts n R => fo ts n fun x n1 => kd x ∧ g x [] fun z => R z n1
section
variable {X : Cx} {o e : Expr} {es : List Expr} {fo : WE} {fa : WA} {name : Str} {apos cpos : Pos} {ty id : String} {r : V → List V → Hp → VK → Prop} {kd : T → Prop} {g : T → GN}
theorem q_bm (hk : KdOk X.K ty kd) (hg : RMOk X.K r g) (pa : PlainAttrs ty) (slot : Slot ty name id) (hty : typeOf (.builtin id) = pure (.type "method_descriptor")) (hm : MtR X id r) (ho : QE X o fo) (ha : QA X (e :: es) fa)
    (hbase : attributeBase o name X.env (eval o X.env) = eval o X.env := by rfl)
    (hfew : ((backTo cpos (starEach (e :: es) X.env)).all (fun x => !x.1) && (backToKw cpos (keywordEach [] X.env)).all (fun x => x.1.isSome)
      && decide ((e :: es).length + ([] : List Keyword).length + (if ([] : List Keyword).isEmpty then 0 else 1) < 30)) = true := by rfl)
    (hline : (apos.endLine == cpos.line) = true := by rfl) (hs : starEach (e :: es) X.env = (false, eval e X.env) :: starEach es X.env := by rfl) (hplain : (backTo cpos (starEach es X.env)).any (·.1) = false := by rfl) :
    QE X (.Call (.Attribute o name apos) (e :: es) [] cpos) (wMk kd g fo fa) := PE.imp (pe_bm pa slot hty hm ho ha hbase hfew hline hs hplain) fun σ H Q ⟨am, Hs, ts, n, R, sp, re, h, k⟩ => by
  refine ⟨am, Hs, ts, n, _, sp, re, h, fun x n1 hx vx Hs1 H1 e1 rx => ⟨hk am Hs1 H1 x vx e1.spl.sub rx hx.1, am, Hs1, ts, n1, _, e1.spl, re.ext e1, hx.2, fun y n2 hy vy Hs2 H2 e2 ry => ?_⟩⟩
  exact hg am Hs2 H2 n2 x vx y vy _ Q e2.spl (Rep.mono e2.same _ _ rx) ry hy fun z hz v Hs' H' e3 rz => k z n2 hz v Hs' H' ((e1.trans e2).trans e3) rz
theorem q_bm0 (hk : KdOk X.K ty kd) (hg : RMOk X.K r g) (pa : PlainAttrs ty) (slot : Slot ty name id) (hty : typeOf (.builtin id) = pure (.type "method_descriptor")) (hm : MtR X id r) (ho : QE X o fo)
    (hbase : attributeBase o name X.env (eval o X.env) = eval o X.env := by rfl) (hline : (apos.endLine == cpos.line) = true := by rfl) : QE X (.Call (.Attribute o name apos) [] [] cpos) (wMk0 kd g fo) := PE.imp (pe_bm0 pa slot hty hm ho hbase hline) fun σ H Q ⟨am, Hs, ts, n, R, sp, re, h, k⟩ => by
  refine ⟨am, Hs, ts, n, _, sp, re, h, fun x n1 hx vx Hs1 H1 e1 rx => ⟨hk am Hs1 H1 x vx e1.spl.sub rx hx.1, ?_⟩⟩
  exact hg am Hs1 H1 n1 x vx [] [] _ Q e1.spl rx (Reps.nil_iff.mpr rfl) hx.2 fun z hz v Hs' H' e3 rz => k z n1 hz v Hs' H' (e1.trans e3) rz
end
/-- texts out of trees -/
def strsOf : List T → Option (List Str)
  | [] => some []
  | .str b :: r => (strsOf r).map (b :: ·)
  | _ :: _ => none
theorem strsOf_map : ∀ {ts : List T} {bs : List Str}, strsOf ts = some bs → ts = bs.map T.str
  | [], bs, e => by cases e; rfl
  | .str b :: r, bs, e => by
    simp only [strsOf] at e
    cases q : strsOf r with
    | none => rw [q] at e; cases e
    | some cs => rw [q] at e; cases e; rw [strsOf_map q]; rfl
  | .non :: _, _, e => by cases e
  | .int _ :: _, _, e => by cases e
  | .bl _ :: _, _, e => by cases e
  | .ty _ :: _, _, e => by cases e
  | .mach :: _, _, e => by cases e
  | .cst _ :: _, _, e => by cases e
  | .scr _ :: _, _, e => by cases e
  | .lst _ :: _, _, e => by cases e
  | .tup _ :: _, _, e => by cases e
  | .dct _ :: _, _, e => by cases e
  | .obj _ _ :: _, _, e => by cases e
  | .exc _ _ :: _, _, e => by cases e
  | .cls _ :: _, _, e => by cases e
theorem strsOf_of (bs : List Str) : strsOf (bs.map T.str) = some bs := by
  induction bs with
  | nil => rfl
  | cons b r ih => simp only [List.map_cons, strsOf, ih, Option.map_some]
def mSplit : T → GN := fun x xs R => match x, xs with
  | .str a, [.str b] => (b.length == 0) = false ∧ a.length + 2 ≤ sizeLine ∧ R (.lst ((Txt.split a b).map T.str))
  | _, _ => False
section
variable {K : PySem.W.Frag}
theorem Reps.one {am : Option Addr} {H : Hp} {t : T} {vs : List V} (h : Reps K am H [t] vs) : ∃ v, vs = [v] ∧ Rep K am H t v := by
  obtain ⟨v, r, rfl, h1, h2⟩ := Reps.cons_iff.mp h
  rw [Reps.nil_iff.mp h2]
  exact ⟨v, rfl, h1⟩
theorem ok_split : RMOk K (fun x xs H Q => ∃ a b, x = V.str a ∧ xs = [V.str b] ∧ (b.length == 0) = false ∧ a.length + 2 ≤ sizeLine ∧ rNewStrs (Txt.split a b) H Q) mSplit := fun am Hs H n x vx y vy R Q sp rx ry h k => by
  unfold mSplit at h
  split at h
  · obtain ⟨v, rfl, h1⟩ := ry.one
    simp only [Rep] at rx h1; subst rx h1
    exact ⟨_, _, rfl, rfl, h.1, h.2.1, fun p hp => k.lay sp h.2.2 hp _ (rep_lst_new sp hp reps_strs)⟩
  · exact h.elim
def mJoin : T → GN := fun x xs R => match x, xs with
  | .str a, [.lst ts] => match strsOf ts with
    | some ys => (ys.map (·.length)).sum + ys.length * a.length ≤ 16777216 ∧ R (.str (Txt.join a ys))
    | none => False
  | _, _ => False
theorem ok_join : RMOk K (fun x xs H Q => ∃ a p, ∃ ys : List Str, x = V.str a ∧ xs = [V.ref p] ∧ (SqL K H p (ys.map V.str) ∨ SqT K H p (ys.map V.str)) ∧ (ys.map (·.length)).sum + ys.length * a.length ≤ 16777216 ∧ Q (.str (Txt.join a ys)) H) mJoin := fun am Hs H n x vx y vy R Q sp rx ry h k => by
  unfold mJoin at h
  split at h
  · split at h
    · rename_i ts _ ys e
      obtain ⟨v, rfl, h1⟩ := ry.one
      simp only [Rep] at rx h1; subst rx
      obtain ⟨p, vs, rfl, h3, h4⟩ := h1
      rw [strsOf_map e] at h4
      have ev := h4.strs
      subst ev
      exact ⟨_, p, ys, rfl, rfl, .inl (SqL.of (sp.sub _ _ h3)), h.1, k.here sp h.2 (by simp only [Rep])⟩
    · exact h.elim
  · exact h.elim
def mS1B (g : Str → Str → Bool) : T → GN := fun x xs R => match x, xs with
  | .str a, [.str b] => R (.bl (g a b))
  | _, _ => False
theorem ok_s1b {g : Str → Str → Bool} : RMOk K (fun x xs H Q => ∃ a b, x = V.str a ∧ xs = [V.str b] ∧ Q (.bl (g a b)) H) (mS1B g) := fun am Hs H n x vx y vy R Q sp rx ry h k => by
  unfold mS1B at h
  split at h
  · obtain ⟨v, rfl, h1⟩ := ry.one
    simp only [Rep] at rx h1; subst rx h1
    exact ⟨_, _, rfl, rfl, k.here sp h (by simp only [Rep])⟩
  · exact h.elim
def mS1I (g : Str → Str → Int) : T → GN := fun x xs R => match x, xs with
  | .str a, [.str b] => R (.int (g a b))
  | _, _ => False
theorem ok_s1i {g : Str → Str → Int} : RMOk K (fun x xs H Q => ∃ a b, x = V.str a ∧ xs = [V.str b] ∧ Q (.int (g a b)) H) (mS1I g) := fun am Hs H n x vx y vy R Q sp rx ry h k => by
  unfold mS1I at h
  split at h
  · obtain ⟨v, rfl, h1⟩ := ry.one
    simp only [Rep] at rx h1; subst rx h1
    exact ⟨_, _, rfl, rfl, k.here sp h (by simp only [Rep])⟩
  · exact h.elim
def mSIdx : T → GN := fun x xs R => match x, xs with
  | .str a, [.str b] => match Builtin.Str.occurrences a b 0 a.length 1 with
    | i :: _ => R (.int (i : Nat))
    | [] => False
  | _, _ => False
theorem ok_sidx : RMOk K (fun x xs H Q => ∃ a b i rest, x = V.str a ∧ xs = [V.str b] ∧ Builtin.Str.occurrences a b 0 a.length 1 = i :: rest ∧ Q (.int (i : Nat)) H) mSIdx := fun am Hs H n x vx y vy R Q sp rx ry h k => by
  unfold mSIdx at h
  split at h
  · split at h
    · rename_i i r e
      obtain ⟨v, rfl, h1⟩ := ry.one
      simp only [Rep] at rx h1; subst rx h1
      exact ⟨_, _, i, r, rfl, rfl, e, k.here sp h (by simp only [Rep])⟩
    · exact h.elim
  · exact h.elim
end
/-! ### isinstance -/
def tyName : T → Option String
  | .non => some "NoneType"
  | .bl _ => some "bool"
  | .int _ => some "int"
  | .str _ => some "str"
  | .lst _ => some "list"
  | .tup _ => some "tuple"
  | .dct _ => some "dict"
  | _ => none
theorem tyName_ok {K : PySem.W.Frag} {am : Option Addr} {Hs H : Hp} {x : T} {v : V} {t : String} (s : Same Hs H) (r : Rep K am Hs x v) (e : tyName x = some t) : TyX K H v (.type t) := by
  cases x with
  | non => simp only [Rep] at r; cases e; subst r; exact .base .non
  | bl b => simp only [Rep] at r; cases e; subst r; exact .base (.bl b)
  | int b => simp only [Rep] at r; cases e; subst r; exact .base (.int b)
  | str b => simp only [Rep] at r; cases e; subst r; exact .base (.str b)
  | lst b => simp only [Rep] at r; cases e; obtain ⟨a, vs, rfl, h1, _⟩ := r; exact .base (.lst (s _ _ h1))
  | tup b =>
    simp only [Rep] at r; cases e
    obtain ⟨a, vs, rfl, h1, _⟩ := r
    rcases h1 with (h1 | ⟨o, h1⟩) | ⟨o, its, n, h1, h2, _⟩
    · exact .base (.tup (s _ _ h1))
    · exact .fTuple (s _ _ h1)
    · exact .kTuple h1 h2
  | dct b =>
    simp only [Rep] at r; cases e
    obtain ⟨a, vs, rfl, h1, _⟩ := r
    rcases h1 with h1 | ⟨o, h1⟩
    · exact .base (.dK (s _ _ h1))
    · exact .fDict (s _ _ h1)
  | _ => cases e
def pIsi : GN := fun xs R => match xs with
  | [x, .ty c] => match tyName x with
    | some t => match kitB t c with
      | some b => R (.bl b)
      | none => False
    | none => False
  | _ => False
theorem ok_isi {K : PySem.W.Frag} : RNOk K (rIsi K) pIsi := fun am Hs H n x vx R Q sp rx h k => by
  unfold pIsi at h
  split at h
  · split at h
    · split at h
      · rename_i x c _ t e _ b e2
        obtain ⟨v, r, rfl, h1, h2⟩ := Reps.cons_iff.mp rx
        obtain ⟨w, rfl, h3⟩ := h2.one
        simp only [Rep] at h3; subst h3
        exact ⟨v, .ty c, .type t, .type c, b, rfl, .ty c, tyName_ok sp.sub h1 e, kit_ty e2, k.here sp h (by simp only [Rep])⟩
      · exact h.elim
    · exact h.elim
  · exact h.elim
/-! ### borrowing one's own things: the answer is flat -/
def Sl.see : Sl → Sl
  | .own t => .tr t
  | s => s
theorem thaw {K : PySem.W.Frag} {am : Option Addr} {Hs H : Hp} {n : Nat} {σ : L2.St} {ts : Env} (sp : Spl am Hs H n) (re : RepE0 K am Hs H σ ts) : ∃ Hp', Same Hs Hp' ∧ Spl am Hp' H n ∧ RepE0 K am Hp' H σ (ts.map Sl.see) ∧
    ∀ a o, Hp' a = some o → Hs a = some o ∨ ∃ (i : Nat) (t : T), ts[i]? = some (.own t) ∧ σ[i]? = some (some (.ref a)) := by
  classical
  let isO : Addr → Prop := fun a => ∃ (i : Nat) (t : T), ts[i]? = some (.own t) ∧ σ[i]? = some (some (.ref a))
  let Hx : Hp := fun a => if isO a then H a else Hs a
  have on : ∀ a, isO a → Hs a = none ∧ ¬ MC am H a ∧ ∃ t, OwnAt K am Hs H a t := fun a ⟨i, t, e1, e2⟩ => by
    obtain ⟨l, e3, h1, h2, h3⟩ := re.at_ i _ e1
    rw [e2] at e3
    cases e3
    exact ⟨h1, h2, t, h3⟩
  have hx1 : ∀ a, isO a → Hx a = H a := fun a h => if_pos h
  have hx2 : ∀ a, ¬ isO a → Hx a = Hs a := fun a h => if_neg h
  have s1 : Same Hs Hx := fun a o e => by
    by_cases q : isO a
    · rw [(on a q).1] at e; cases e
    · rw [hx2 a q]; exact e
  refine ⟨Hx, s1, ⟨fun a o e => ?_, fun m em => ⟨(sp.mok m em).ok, fun a q => ?_⟩⟩, ⟨by rw [List.length_map]; exact re.len, fun i s e => ?_, fun i j t u l hij e1 _ _ => ?_⟩, fun a o e => ?_⟩
  · by_cases q : isO a
    · rw [hx1 a q] at e; exact e
    · rw [hx2 a q] at e; exact sp.sub a o e
  · by_cases z : isO a
    · exact ((on a z).2.1 ⟨m, em, q⟩).elim
    · rw [hx2 a z]; exact (sp.mok m em).off a q
  · rw [List.getElem?_map] at e
    cases q : ts[i]? with
    | none => rw [q] at e; cases e
    | some s0 =>
      rw [q] at e
      have e' : s0.see = s := Option.some.inj e
      have h0 := re.at_ i s0 q
      cases s0 with
      | no => rw [← e']; trivial
      | tr t =>
        rw [← e']
        obtain ⟨v, a1, a2⟩ := h0
        exact ⟨v, a1, Rep.mono s1 _ _ a2⟩
      | own t =>
        rw [← e']
        obtain ⟨l, a1, a2, a3, a4⟩ := h0
        refine ⟨.ref l, a1, ?_⟩
        have il : isO l := ⟨i, t, q, a1⟩
        cases t with
        | lst xs =>
          obtain ⟨vs, b1, b2⟩ := a4
          simp only [Rep]
          exact ⟨l, vs, rfl, by rw [hx1 l il]; exact b1, Reps.mono s1 _ _ b2⟩
        | dct xs =>
          obtain ⟨vs, b1, b2⟩ := a4
          simp only [Rep]
          exact ⟨l, vs, rfl, .inl (by rw [hx1 l il]; exact b1), RepK.mono s1 _ _ b2⟩
        | obj C xs =>
          obtain ⟨C, dx, vs, b0, b1, b2⟩ := a4
          simp only [Rep]
          exact ⟨l, C, dx, vs, rfl, b0, by rw [hx1 l il]; exact b1, RepF.mono s1 _ _ b2⟩
        | _ => exact a4.elim
  · rw [List.getElem?_map] at e1
    cases q : ts[i]? with
    | none => rw [q] at e1; cases e1
    | some s0 => rw [q] at e1; cases s0 <;> cases e1
  · by_cases q : isO a
    · exact .inr q
    · rw [hx2 a q] at e; exact .inl e
def wBor (f : WE) : WE := fun ts n R => f (ts.map Sl.see) n fun r n' => flatT r = true ∧ R r n'
def wBorT (f : WT) : WT := fun ts n R => f (ts.map Sl.see) n R
/-- back from the borrowed heap -/
theorem Ext.back {am : Option Addr} {Hs Hx H Hs' H' : Hp} {n n' : Nat} (sp : Spl am Hs H n) (s1 : Same Hs Hx) (x : Ext am Hx H Hs' H' n') : Ext am Hs H Hs H' n' where
  spl := ⟨fun a o e => x.keep.at_ a o (sp.sub a o e) (fun ⟨m, em, q⟩ => by rw [(sp.mok m em).off a q] at e; cases e), fun m em => ⟨(x.spl.mok m em).ok, fun a q => (s1.trans x.same).free ((x.spl.mok m em).off a q)⟩⟩
  same := Same.refl _
  keep := x.keep
  new := fun a o e => .inl e
section
variable {X : Cx} {e : Expr} {f : WE} {t : WT}
theorem q_bor (h : @QE _ _ Xw.no X e f) : QE X e (wBor f) := PE.imp h fun σ H Q ⟨am, Hs, ts, n, R, sp, re, h, k⟩ => by
  obtain ⟨Hx, s1, sp1, re1, _⟩ := thaw sp re.toRepE0
  refine ⟨am, Hx, ts.map Sl.see, n, _, sp1, re1.no, h, fun r n' hr v Hs' H' x rv => ?_⟩
  have ev := rep_flat hr.1 rv
  subst ev
  exact k r n' hr.2 _ Hs H' (x.back sp s1) (flat_rep hr.1)
theorem qt_bor (h : @QT _ _ Xw.no X e t) : QT X e (wBorT t) := PT.imp h fun σ H Q ⟨am, Hs, ts, n, R, sp, re, h, k⟩ => by
  obtain ⟨Hx, s1, sp1, re1, _⟩ := thaw sp re.toRepE0
  exact ⟨am, Hx, ts.map Sl.see, n, _, sp1, re1.no, h, fun r n' hr Hs' H' x => k r n' hr Hs H' (x.back sp s1)⟩
end
end TL
namespace TL
open PySem L2
variable [Mach] [CN] [Xw]
/-! ### statements -/
structure RepB (K : PySem.W.Frag) (am : Option Addr) (Hb Hs H : Hp) (σ : L2.St) (ts : Env) : Prop where
  re : RepE0 K am Hs H σ ts
  nw : ∀ (i : Nat) (t : T) (l : Addr), ts[i]? = some (.own t) → σ[i]? = some (some (.ref l)) → Hb l = none
theorem RepB.ext {K : PySem.W.Frag} {am : Option Addr} {Hb Hs H Hs' H' : Hp} {n : Nat} {σ : L2.St} {ts : Env} (h : RepB K am Hb Hs H σ ts) (x : Ext am Hs H Hs' H' n) : RepB K am Hb Hs' H' σ ts := ⟨h.re.ext x, h.nw⟩
theorem RepB.set {K : PySem.W.Frag} {am : Option Addr} {Hb Hs H : Hp} {σ : L2.St} {ts : Env} (h : RepB K am Hb Hs H σ ts) (i : Nat) {r : T} {v : V} (rv : Rep K am Hs r v) : RepB K am Hb Hs H (σ.set i (some v)) (ts.set i (.tr r)) := by
  have sp : ∀ (j : Nat) (t : T), (ts.set i (.tr r))[j]? = some (.own t) → j ≠ i ∧ ts[j]? = some (.own t) := fun j t e => by
    by_cases q : i = j
    · subst q
      by_cases hl : i < ts.length
      · rw [List.getElem?_set_self hl] at e; cases e
      · rw [List.getElem?_eq_none (by simp; omega)] at e; cases e
    · rw [List.getElem?_set_ne q] at e
      exact ⟨fun z => q z.symm, e⟩
  refine ⟨⟨by simp [h.re.len], fun j s e => ?_, fun a b t u l hab e1 e2 e3 e4 => ?_⟩, fun j t l e1 e2 => ?_⟩
  · by_cases q : i = j
    · subst q
      by_cases hl : i < ts.length
      · rw [List.getElem?_set_self hl] at e
        cases e
        exact ⟨v, by rw [List.getElem?_set_self (by rw [← h.re.len]; exact hl)], rv⟩
      · rw [List.getElem?_eq_none (by simp; omega)] at e; cases e
    · rw [List.getElem?_set_ne q] at e ⊢
      exact h.re.at_ j s e
  · obtain ⟨n1, f1⟩ := sp a t e1
    obtain ⟨n2, f2⟩ := sp b u e2
    rw [List.getElem?_set_ne (Ne.symm n1)] at e3
    rw [List.getElem?_set_ne (Ne.symm n2)] at e4
    exact h.re.dis a b t u l hab f1 f2 e3 e4
  · obtain ⟨n1, f1⟩ := sp j t e1
    rw [List.getElem?_set_ne (Ne.symm n1)] at e2
    exact h.nw j t l f1 e2
/-- what is wanted of exceptions, at the slots σ -/
def XAt (K : PySem.W.Frag) (am : Option Addr) (H0 Hs0 : Hp) (σ : L2.St) : Prop := ∀ (x : Exn) (n' : Nat) (cls : Value) (d : Option Addr) (Hs' H' : Hp), Xw.RE x n' → Ext am Hs0 H0 Hs' H' n' → RepX K am Hs' x cls d → Xw.W cls d σ H'
theorem XAt.any [XwI] {K : PySem.W.Frag} {am : Option Addr} {H0 Hs0 : Hp} {σ : L2.St} (h : XAt K am H0 Hs0 σ) (σ' : L2.St) : XAt K am H0 Hs0 σ' := fun x n' cls d Hs' H' r y q => XwI.ind (h x n' cls d Hs' H' r y q)
theorem RepB.x {K : PySem.W.Frag} {am : Option Addr} {Hb Hs H Hs0 H0 : Hp} {n : Nat} {σ : L2.St} {ts : Env} (b : RepB K am Hb Hs H σ ts) (y : Ext am Hs0 H0 Hs H n) (kx : XAt K am H0 Hs0 σ) : RepE K am Hs H σ ts := ⟨b.re, fun x n' cls d Hs' H' r z q => kx x n' cls d Hs' H' r (y.trans z) q⟩
def ST (K : PySem.W.Frag) (am : Option Addr) (H0 Hs0 : Hp) (σ : L2.St) (H : Hp) (ts : Env) (n : Nat) : Prop := ∃ Hs, Ext am Hs0 H0 Hs H n ∧ RepB K am H0 Hs H σ ts
structure WEnds where
  nx : Env → Nat → Prop
  rt : T → Nat → Prop
  bk : Env → Nat → Prop := fun _ _ => False
  ct : Env → Nat → Prop := fun _ _ => False
abbrev WS := WEnds → Env → Nat → Prop
structure SEnds (K : PySem.W.Frag) (am : Option Addr) (H0 Hs0 : Hp) (W : WEnds) (D : Ends) : Prop where
  nx : ∀ σ H ts n, ST K am H0 Hs0 σ H ts n → W.nx ts n → D.nx σ H
  rt : ∀ v H Hs r n, Ext am Hs0 H0 Hs H n → Rep K am Hs r v → W.rt r n → D.rt v H
  bk : ∀ σ H ts n, ST K am H0 Hs0 σ H ts n → W.bk ts n → D.bk σ H
  ct : ∀ σ H ts n, ST K am H0 Hs0 σ H ts n → W.ct ts n → D.ct σ H
def sT (K : PySem.W.Frag) (w : WS) : TS := fun D σ H => ∃ (am : Option Addr) (H0 Hs0 : Hp) (ts : Env) (n : Nat) (W : WEnds), ST K am H0 Hs0 σ H ts n ∧ w W ts n ∧ SEnds K am H0 Hs0 W D ∧ XAt K am H0 Hs0 σ
abbrev QS (X : Cx) (st : Stmt) (w : WS) : Prop := PS X st (sT X.K w)
abbrev QSs (X : Cx) (st : List Stmt) (w : WS) : Prop := PSs X st (sT X.K w)
theorem PS.imp {X : Cx} {e : Stmt} {t u : TS} (h : PS X e t) (k : ∀ D σ H, u D σ H → t D σ H) : PS X e u := ⟨fun pins s σ H D I q => h.run pins s σ H D I (k D σ H q)⟩
theorem PSs.imp {X : Cx} {e : List Stmt} {t u : TS} (h : PSs X e t) (k : ∀ D σ H, u D σ H → t D σ H) : PSs X e u := ⟨fun pins s σ H D I q => h.run pins s σ H D I (k D σ H q)⟩
/-- an expression at a state -/
theorem tT_at {K : PySem.W.Frag} {f : WE} {am : Option Addr} {H0 Hs0 : Hp} {σ : L2.St} {H : Hp} {ts : Env} {n : Nat} {R : T → Nat → Prop} {Q : VK} (kx : XAt K am H0 Hs0 σ) (s : ST K am H0 Hs0 σ H ts n) (h : f ts n R)
    (k : ∀ r n', R r n' → ∀ v Hs' H', Ext am Hs0 H0 Hs' H' n' → RepB K am H0 Hs' H' σ ts → Rep K am Hs' r v → Q v H') : tT K f σ H Q := by
  obtain ⟨Hs, x, b⟩ := s
  exact ⟨am, Hs, ts, n, R, x.spl, b.x x kx, h, fun r n' hr v Hs' H' y rv => k r n' hr v Hs' H' (x.trans y) (b.ext y) rv⟩
theorem tTT_at {K : PySem.W.Frag} {f : WT} {am : Option Addr} {H0 Hs0 : Hp} {σ : L2.St} {H : Hp} {ts : Env} {n : Nat} {R : Bool → Nat → Prop} {Q : Bool → Hp → Prop} (kx : XAt K am H0 Hs0 σ) (s : ST K am H0 Hs0 σ H ts n) (h : f ts n R)
    (k : ∀ r n', R r n' → ∀ H', ST K am H0 Hs0 σ H' ts n' → Q r H') : tTT K f σ H Q := by
  obtain ⟨Hs, x, b⟩ := s
  exact ⟨am, Hs, ts, n, R, x.spl, b.x x kx, h, fun r n' hr Hs' H' y => k r n' hr H' ⟨Hs', x.trans y, b.ext y⟩⟩
theorem tTA_at {K : PySem.W.Frag} {f : WA} {am : Option Addr} {H0 Hs0 : Hp} {σ : L2.St} {H : Hp} {ts : Env} {n : Nat} {R : List T → Nat → Prop} {Q : List V → Hp → Prop} (kx : XAt K am H0 Hs0 σ) (s : ST K am H0 Hs0 σ H ts n) (h : f ts n R)
    (k : ∀ r n', R r n' → ∀ v Hs' H', Ext am Hs0 H0 Hs' H' n' → RepB K am H0 Hs' H' σ ts → Reps K am Hs' r v → Q v H') : tTA K f σ H Q := by
  obtain ⟨Hs, x, b⟩ := s
  exact ⟨am, Hs, ts, n, R, x.spl, b.x x kx, h, fun r n' hr v Hs' H' y rv => k r n' hr v Hs' H' (x.trans y) (b.ext y) rv⟩
def wsNext : WS := fun W ts n => W.nx ts n
def wsSeq (a b : WS) : WS := fun W ts n => a { W with nx := b W } ts n
def wsExpr (f : WE) : WS := fun W ts n => f ts n fun _ n1 => W.nx ts n1
def wsRet (f : WE) : WS := fun W ts n => f (ts.map Sl.see) n W.rt
def wsRetN : WS := fun W _ n => W.rt .non n
def wsIf (t : WT) (a b : WS) : WS := fun W ts n => t ts n fun c n1 => if c = true then a W ts n1 else b W ts n1
def wsBreak : WS := fun W ts n => W.bk ts n
def wsCont : WS := fun W ts n => W.ct ts n
def wsNever : WS := fun _ _ _ => False
def wsSet (i : Nat) (f : WE) : WS := fun W ts n => f ts n fun r n1 => W.nx (ts.set i (.tr r)) n1
section
variable {X : Cx} {st : Stmt} {rest : List Stmt} {a b w u : WS} {e : Expr} {f : WE} {pos : Pos}
theorem qss_nil : QSs X [] wsNext := PSs.imp pss_nil fun D σ H ⟨am, H0, Hs0, ts, n, W, s, h, k, kx⟩ => k.nx σ H ts n s h
theorem qss_cons [XwI] (h1 : QS X st a) (h2 : QSs X rest b) : QSs X (st :: rest) (wsSeq a b) := PSs.imp (pss_cons h1 h2) fun D σ H ⟨am, H0, Hs0, ts, n, W, s, h, k, kx⟩ =>
  ⟨am, H0, Hs0, ts, n, { W with nx := b W }, s, h, ⟨fun σ' H' ts' n' s' h' => ⟨am, H0, Hs0, ts', n', W, s', h', k, kx.any σ'⟩, k.rt, k.bk, k.ct⟩, kx⟩
theorem qss_one (h1 : QS X st a) : QSs X [st] a := pss_one h1
theorem qs_expr (he : QE X e f) (hs : swapsWith e none pos.line X.env = pure false := by rfl) : QS X (.Expr e pos) (wsExpr f) := PS.imp (ps_expr he hs) fun D σ H ⟨am, H0, Hs0, ts, n, W, s, h, k, kx⟩ =>
  tT_at kx s h fun r n' hr v Hs' H' x b _ => k.nx σ H' ts n' ⟨Hs', x, b⟩ hr
theorem qs_ret (he : QE X e f) : QS X (.Return (some e) pos) (wsRet f) := PS.imp (ps_ret he) fun D σ H ⟨am, H0, Hs0, ts, n, W, s, h, k, kx⟩ => by
  obtain ⟨Hs, x, b⟩ := s
  obtain ⟨Hx, s1, sp1, re1, nw1⟩ := thaw x.spl b.re
  have ex : ∀ {Hs' H' : Hp} {n' : Nat}, Ext am Hx H Hs' H' n' → Ext am Hs0 H0 Hs' H' n' := fun {Hs' H' n'} y => ⟨y.spl, (x.same.trans s1).trans y.same, x.keep.trans y.keep, fun a o e => by
    rcases y.new a o e with q | q
    · rcases nw1 a o q with z | ⟨i, t, e1, e2⟩
      · exact x.new a o z
      · exact .inr (b.nw i t a e1 e2)
    · exact .inr (x.keep.dom a q)⟩
  exact ⟨am, Hx, ts.map Sl.see, n, _, sp1, ⟨re1, fun e n' cls d Hs' H' r y q => kx e n' cls d Hs' H' r (ex y) q⟩, h, fun r n' hr v Hs' H' y rv => k.rt v H' Hs' r n' (ex y) rv hr⟩
theorem qs_retN : QS X (.Return none pos) wsRetN := PS.imp ps_retN fun D σ H ⟨am, H0, Hs0, ts, n, W, s, h, k, kx⟩ => by
  obtain ⟨Hs, x, b⟩ := s
  exact k.rt .non H Hs .non n x (by simp only [Rep]) h
theorem qs_if {c : Expr} {t : WT} {as bs : List Stmt} (hc : QT X c t) (ha : QSs X as a) (hb : QSs X bs b) : QS X (.If c as bs pos) (wsIf t a b) := PS.imp (ps_if hc ha hb) fun D σ H ⟨am, H0, Hs0, ts, n, W, s, h, k, kx⟩ =>
  tTT_at kx s h fun c n' hc H' s' => by
    cases c with
    | true => exact iteT ⟨am, H0, Hs0, ts, n', W, s', hc, k, kx⟩
    | false => exact iteF ⟨am, H0, Hs0, ts, n', W, s', hc, k, kx⟩
theorem qs_pass : QS X (.Pass pos) wsNext := PS.imp ps_pass fun D σ H ⟨am, H0, Hs0, ts, n, W, s, h, k, kx⟩ => k.nx σ H ts n s h
theorem qs_break : QS X (.Break pos) wsBreak := PS.imp ps_break fun D σ H ⟨am, H0, Hs0, ts, n, W, s, h, k, kx⟩ => k.bk σ H ts n s h
theorem qs_cont : QS X (.Continue pos) wsCont := PS.imp ps_continue fun D σ H ⟨am, H0, Hs0, ts, n, W, s, h, k, kx⟩ => k.ct σ H ts n s h
theorem qs_never : QS X st wsNever := PS.imp ps_never fun D σ H ⟨am, H0, Hs0, ts, n, W, s, h, k, kx⟩ => h
theorem qs_set {i : Nat} {x : Str} {pos' : Pos} (hN : X.N.Nodup) (hi : X.N[i]? = some x) (hx : Loc X.env.scope x) (he : QE X e f) (hs : swapsWith e (some (.Name x pos')) pos.line X.env = pure false := by rfl) (hf : X.fn x = true ∨ X.env.scope.names.lookup x = some .local := by first | exact .inl rfl | exact .inr rfl | assumption) :
    QS X (.Assign [.Name x pos'] e pos) (wsSet i f) := PS.imp (ps_set hN hi hx he hs hf) fun D σ H ⟨am, H0, Hs0, ts, n, W, s, h, k, kx⟩ =>
  tT_at kx s h fun r n' hr v Hs' H' x b rv => k.nx _ H' _ n' ⟨Hs', x, b.set i rv⟩ hr
end
/-! ### targets -/
abbrev WG := T → Env → Nat → (Env → Nat → Prop) → Prop
abbrev WGs := List T → Env → Nat → (Env → Nat → Prop) → Prop
def tTG (K : PySem.W.Frag) (g : WG) : TG := fun v σ H Q => ∃ (am : Option Addr) (H0 Hs0 Hs : Hp) (ts : Env) (n : Nat) (r : T) (R : Env → Nat → Prop), Ext am Hs0 H0 Hs H n ∧ RepB K am H0 Hs H σ ts ∧ Rep K am Hs r v ∧ g r ts n R ∧
  ∀ ts' n', R ts' n' → ∀ σ' Hs' H', Ext am Hs0 H0 Hs' H' n' → Same Hs Hs' → RepB K am H0 Hs' H' σ' ts' → Q σ' H'
def tTGs (K : PySem.W.Frag) (g : WGs) : TGs := fun v σ H Q => ∃ (am : Option Addr) (H0 Hs0 Hs : Hp) (ts : Env) (n : Nat) (r : List T) (R : Env → Nat → Prop), Ext am Hs0 H0 Hs H n ∧ RepB K am H0 Hs H σ ts ∧ Reps K am Hs r v ∧ g r ts n R ∧
  ∀ ts' n', R ts' n' → ∀ σ' Hs' H', Ext am Hs0 H0 Hs' H' n' → Same Hs Hs' → RepB K am H0 Hs' H' σ' ts' → Q σ' H'
abbrev QG (X : Cx) (tg : Expr) (g : WG) : Prop := PG X tg (tTG X.K g)
abbrev QGs (X : Cx) (tg : List Expr) (g : WGs) : Prop := PGs X tg (tTGs X.K g)
theorem PG.imp {X : Cx} {e : Expr} {t u : TG} (h : PG X e t) (k : ∀ v σ H Q, u v σ H Q → t v σ H Q) : PG X e u := ⟨fun pins s σ H v w Q I r q => h.run pins s σ H v w Q I r (k v σ H Q q)⟩
theorem PGs.imp {X : Cx} {e : List Expr} {t u : TGs} (h : PGs X e t) (k : ∀ v σ H Q, u v σ H Q → t v σ H Q) : PGs X e u := ⟨fun pins s σ H v w Q I r q => h.run pins s σ H v w Q I r (k v σ H Q q)⟩
def wgName (i : Nat) : WG := fun r ts n R => R (ts.set i (.tr r)) n
def wgNil : WGs := fun rs ts n R => match rs with
  | [] => R ts n
  | _ => False
def wgCons (g : WG) (gs : WGs) : WGs := fun rs ts n R => match rs with
  | r :: rest => g r ts n fun ts' n' => gs rest ts' n' R
  | [] => False
def wgTup (k : Nat) (gs : WGs) : WG := fun r ts n R => match r with
  | .tup xs => xs.length = k ∧ gs xs ts n R
  | _ => False
def wsAsg (f : WE) (g : WG) : WS := fun W ts n => f ts n fun r n1 => g r ts n1 W.nx
section
variable {X : Cx} {e : Expr} {es : List Expr} {g : WG} {gs : WGs} {f : WE} {pos : Pos}
theorem qg_name {i : Nat} {x : Str} (hN : X.N.Nodup) (hi : X.N[i]? = some x) (hx : Loc X.env.scope x) (hf : X.fn x = true ∨ X.env.scope.names.lookup x = some .local := by first | exact .inl rfl | exact .inr rfl | assumption) : QG X (.Name x pos) (wgName i) :=
  PG.imp (pg_name hN hi hx hf) fun v σ H Q ⟨am, H0, Hs0, Hs, ts, n, r, R, x, b, rv, h, k⟩ => k _ n h _ Hs H x (Same.refl _) (b.set i rv)
theorem qgs_nil : QGs X [] wgNil := PGs.imp pgs_nil fun v σ H Q ⟨am, H0, Hs0, Hs, ts, n, r, R, x, b, rv, h, k⟩ => by
  unfold wgNil at h
  split at h
  · exact ⟨Reps.nil_iff.mp rv, k ts n h σ Hs H x (Same.refl _) b⟩
  · exact h.elim
theorem qgs_cons (h1 : QG X e g) (h2 : QGs X es gs) (ha : (assignEach (e :: es) X.env).map (·.2) = assign e X.env :: (assignEach es X.env).map (·.2) := by rfl) : QGs X (e :: es) (wgCons g gs) :=
  PGs.imp (pgs_cons h1 h2 ha) fun v σ H Q ⟨am, H0, Hs0, Hs, ts, n, r, R, x, b, rv, h, k⟩ => by
    unfold wgCons at h
    split at h
    · obtain ⟨v1, vr, rfl, r1, r2⟩ := Reps.cons_iff.mp rv
      exact ⟨v1, vr, rfl, am, H0, Hs0, Hs, ts, n, _, _, x, b, r1, h, fun ts' n' h' σ' Hs' H' x' s' b' => ⟨am, H0, Hs0, Hs', ts', n', _, R, x', b', Reps.mono s' _ _ r2, h', fun ts2 n2 h2 σ2 Hs2 H2 x2 s2 b2 => k ts2 n2 h2 σ2 Hs2 H2 x2 (s'.trans s2) b2⟩⟩
    · exact h.elim
theorem qg_tup {k n : Nat} (hc : X.calm = true) (h : QGs X es gs) (hn : (assignEach es X.env).length = n := by rfl) (hst : (assignEach es X.env).findIdx? (·.1) = none := by rfl) : QG X (.Tuple es k pos) (wgTup n gs) :=
  PG.imp (pg_tup hc h hn hst) fun v σ H Q ⟨am, H0, Hs0, Hs, ts, m, r, R, x, b, rv, h, k⟩ => by
    unfold wgTup at h
    split at h
    · simp only [Rep] at rv
      obtain ⟨a, vs, rfl, h1, h2⟩ := rv
      exact ⟨a, vs, rfl, same_sqT x.spl.sub h1, by rw [← h2.length]; exact h.1, am, H0, Hs0, Hs, ts, m, _, R, x, b, h2, h.2, k⟩
    · exact h.elim
theorem qs_asg {tg : Expr} (he : QE X e f) (hg : QG X tg g) (hs : swapsWithSole [tg] e pos.line X.env = pure false := by rfl) (hw : swappedStores [tg] e X.env = pure none := by rfl)
    (h1 : (assignEach [tg] X.env).map (·.2) = [assign tg X.env] := by rfl) : QS X (.Assign [tg] e pos) (wsAsg f g) := PS.imp (ps_asg he hg hs hw h1) fun D σ H ⟨am, H0, Hs0, ts, n, W, s, h, k, kx⟩ =>
  tT_at kx s h fun r n' hr v Hs' H' x b rv => ⟨am, H0, Hs0, Hs', ts, n', r, W.nx, x, b, rv, hr, fun ts2 n2 h2 σ2 Hs2 H2 x2 _ b2 => k.nx σ2 H2 ts2 n2 ⟨Hs2, x2, b2⟩ h2⟩
end
/-! two names at once -/
def wsPar (i j : Nat) (fa : WA) : WS := fun W ts n => fa ts n fun rs n1 => match rs with
  | [r, s] => W.nx ((ts.set i (.tr r)).set j (.tr s)) n1
  | _ => False
section
variable {X : Cx} {fa : WA} {pos : Pos}
theorem qs_par {i j : Nat} {x y : Str} {a b : Expr} {px py pt : Pos} {kt k2 pt2} (hc : X.calm = true) (hN : X.N.Nodup) (hi : X.N[i]? = some x) (hj : X.N[j]? = some y) (hij : i ≠ j)
    (hx : X.env.scope.names.lookup x = some .local) (hy : X.env.scope.names.lookup y = some .local) (ha : QA X [a, b] fa)
    (hw : swappedStores [.Tuple [.Name x px, .Name y py] kt pt] (.Tuple [a, b] k2 pt2) X.env = pure (some [x, y]))
    (hs : swapsWithSole [.Tuple [.Name x px, .Name y py] kt pt] (.Tuple [a, b] k2 pt2) pos.line X.env = pure false := by rfl) :
    QS X (.Assign [.Tuple [.Name x px, .Name y py] kt pt] (.Tuple [a, b] k2 pt2) pos) (wsPar i j fa) := PS.imp (ps_par hc hN hi hj hij hx hy ha hw hs) fun D σ H ⟨am, H0, Hs0, ts, n, W, s, h, k, kx⟩ =>
  tTA_at kx s h fun r n' hr v Hs' H' x b rv => by
    split at hr
    · obtain ⟨v1, vr, rfl, r1, r2⟩ := Reps.cons_iff.mp rv
      obtain ⟨v2, rfl, r3⟩ := r2.one
      exact ⟨v1, v2, rfl, k.nx _ H' _ n' ⟨Hs', x, (b.set i r1).set j r3⟩ hr⟩
    · exact hr.elim
end
end TL
namespace TL
open PySem L2
variable [Mach] [CN] [Xw]
/-! ### what is walked -/
structure WalkT (K : PySem.W.Frag) (am : Option Addr) (Hs : Hp) (J : It) (xs : List T) : Prop where
  goes : ∀ i H, i < xs.length → Same Hs H → J.go i H
  stops : ∀ H, Same Hs H → J.stop xs.length H
  yields : ∀ i H x H' Hs1 n1, i < xs.length → Spl am Hs1 H n1 → Same Hs Hs1 → J.yld i H x H' → ∃ Hs' t, Ext am Hs1 H Hs' H' n1 ∧ xs[i]? = some t ∧ Rep K am Hs' t x
abbrev WI := Env → Nat → (List T → Nat → Prop) → Prop
def tTI (K : PySem.W.Frag) (fi : WI) : TI := fun σ H R => ∃ (am : Option Addr) (Hs : Hp) (ts : Env) (n : Nat) (S : List T → Nat → Prop), Spl am Hs H n ∧ RepE K am Hs H σ ts ∧ fi ts n S ∧
  ∀ xs n', S xs n' → ∀ J Hs' H', Ext am Hs H Hs' H' n' → WalkT K am Hs' J xs → R J H'
abbrev QI (X : Cx) (tg e : Expr) (f : WI) : Prop := PI X tg e (tTI X.K f)
theorem PI.imp {X : Cx} {tg e : Expr} {t u : TI} (h : PI X tg e t) (k : ∀ σ H R, u σ H R → t σ H R) : PI X tg e u := ⟨fun pins s σ H R I q => h.run pins s σ H R I (k σ H R q)⟩
theorem walkT_list {K : PySem.W.Frag} {am : Option Addr} {Hs : Hp} {a : Addr} {vs : List V} {xs : List T} (h : SqL K Hs a vs) (r : Reps K am Hs xs vs) : WalkT K am Hs (Itl K a) xs where
  goes := fun i H hi s => ⟨vs, vs[i]'(by rw [← r.length]; exact hi), same_sqL s h, by simp⟩
  stops := fun H s => ⟨vs, same_sqL s h, by rw [← r.length]; exact Nat.le_refl _⟩
  yields := fun i H x H' Hs1 n1 hi sp s y => by
    obtain ⟨rfl, y⟩ := y
    obtain ⟨t, e, q⟩ := r.getV (y vs (same_sqL (s.trans sp.sub) h))
    exact ⟨Hs1, t, Ext.refl sp, e, Rep.mono s _ _ q⟩
theorem walkT_tup {K : PySem.W.Frag} {am : Option Addr} {Hs : Hp} {a : Addr} {vs : List V} {xs : List T} (h : SqT K Hs a vs) (r : Reps K am Hs xs vs) : WalkT K am Hs (Itt K a) xs where
  goes := fun i H hi s => ⟨vs, vs[i]'(by rw [← r.length]; exact hi), same_sqT s h, by simp⟩
  stops := fun H s => ⟨vs, same_sqT s h, by rw [← r.length]; exact Nat.le_refl _⟩
  yields := fun i H x H' Hs1 n1 hi sp s y => by
    obtain ⟨rfl, y⟩ := y
    obtain ⟨t, e, q⟩ := r.getV (y vs (same_sqT (s.trans sp.sub) h))
    exact ⟨Hs1, t, Ext.refl sp, e, Rep.mono s _ _ q⟩
def signs (z : Str) : List T := z.cps.toList.map fun c => T.str ⟨#[c]⟩
theorem walkT_str {K : PySem.W.Frag} {am : Option Addr} {Hs : Hp} {z : Str} : WalkT K am Hs (Its z) (signs z) where
  goes := fun i H hi s => by show i < z.cps.size; simpa [signs] using hi
  stops := fun H s => by show z.cps.size ≤ (signs z).length; simp [signs]
  yields := fun i H x H' Hs1 n1 hi sp s y => by
    obtain ⟨rfl, c, e, rfl⟩ := y
    refine ⟨Hs1, .str ⟨#[c]⟩, Ext.refl sp, ?_, by simp only [Rep]⟩
    unfold signs
    rw [List.getElem?_map, Array.getElem?_toList, e]; rfl
def rangeT (lo : Int) (n : Nat) : List T := (List.range n).map fun i => T.int (lo + (i : Nat))
theorem walkT_range {K : PySem.W.Frag} {am : Option Addr} {Hs : Hp} {lo : Int} {n : Nat} : WalkT K am Hs (Itr lo n) (rangeT lo n) where
  goes := fun i H hi s => by show i < n; simpa [rangeT] using hi
  stops := fun H s => by show n ≤ (rangeT lo n).length; simp [rangeT]
  yields := fun i H x H' Hs1 n1 hi sp s y => by
    obtain ⟨rfl, rfl⟩ := y
    refine ⟨Hs1, .int (lo + (i : Nat)), Ext.refl sp, ?_, by simp only [Rep]⟩
    have : i < n := by simpa [rangeT] using hi
    unfold rangeT
    rw [List.getElem?_map, List.getElem?_range this]; rfl
/-- the items of a sequence -/
def itemsT : T → (List T → Prop) → Prop := fun x S => match x with
  | .lst xs => S xs
  | .tup xs => S xs
  | .str z => S (signs z)
  | .scr ns => S (ns.map T.int)
  | _ => False
def wiSeq (f : WE) : WI := fun ts n S => f ts n fun x n1 => itemsT x fun xs => S xs n1
section
variable {X : Cx} {tg e : Expr} {f : WE} {fs : WA} {p pos : Pos}
theorem qi_seq (h : QE X e f) : QI X tg e (wiSeq f) := by
  refine ⟨fun pins s σ H R I h' => ?_⟩
  obtain ⟨am, Hs, ts, n, S, sp, re, h', k⟩ := h'
  refine thn (h.run pins s σ H (fun v H1 => ∃ J, R J H1 ∧ ((∃ a vs, v = .ref a ∧ SqL X.K H1 a vs ∧ J = Itl X.K a) ∨ (∃ a vs, v = .ref a ∧ SqT X.K H1 a vs ∧ J = Itt X.K a) ∨ ∃ z, v = .str z ∧ J = Its z)) I ⟨am, Hs, ts, n, _, sp, re, h', fun x n1 hx vx Hs1 H1 e1 rx => ?_⟩) fun v s1 ⟨x, H1, I1, r1, J, q, c⟩ => ?_
  · cases x with
    | lst xs =>
      simp only [Rep] at rx
      obtain ⟨a, vs, rfl, h1, h2⟩ := rx
      exact ⟨_, k xs n1 hx _ Hs1 H1 e1 (walkT_list (SqL.of h1) h2), .inl ⟨a, vs, rfl, SqL.of (e1.spl.sub _ _ h1), rfl⟩⟩
    | tup xs =>
      simp only [Rep] at rx
      obtain ⟨a, vs, rfl, h1, h2⟩ := rx
      exact ⟨_, k xs n1 hx _ Hs1 H1 e1 (walkT_tup h1 h2), .inr (.inl ⟨a, vs, rfl, same_sqT e1.spl.sub h1, rfl⟩)⟩
    | str z =>
      simp only [Rep] at rx
      exact ⟨_, k _ n1 hx _ Hs1 H1 e1 walkT_str, .inr (.inr ⟨z, rx, rfl⟩)⟩
    | scr ns =>
      simp only [Rep] at rx
      obtain ⟨a, rfl, h1⟩ := rx
      exact ⟨_, k _ n1 hx _ Hs1 H1 e1 (walkT_list h1 reps_ints), .inl ⟨a, _, rfl, same_sqL e1.spl.sub h1, rfl⟩⟩
    | _ => exact hx.elim
  · rcases c with ⟨a, vs, rfl, hq, rfl⟩ | ⟨a, vs, rfl, hq, rfl⟩ | ⟨z, rfl, rfl⟩
    · cases r1
      obtain ⟨its, rv, pl, hz⟩ := I1.list hq
      exact wpAny_pyIter_list pl.isList (pi_one (tk := s1.toks) I1 _ (turn_list a _) ⟨_, Heap.get?_push_size _ rfl, rfl, rfl⟩ q)
    · cases r1
      obtain ⟨its, rv, pl, hz⟩ := I1.tuple hq
      exact wpAny_pyIter_tuple (show s1.heap.IsTuple a its.toArray from pl) (pi_one (tk := s1.toks) I1 _ (turn_tuple a _) ⟨_, Heap.get?_push_size _ rfl, rfl, rfl⟩ q)
    · obtain ⟨t, rfl⟩ := r1
      cases ha : z.cps.all (· < 128)
      · exact wpAny_pyIter_wide ha (pi_one (tk := s1.toks) I1 _ (turn_str _ z t "str_iterator" (.inr rfl)) ⟨_, Heap.get?_push_size _ rfl, rfl, rfl⟩ q)
      · exact wpAny_pyIter_ascii ha (pi_one (tk := s1.toks) I1 _ (turn_str _ z t "str_ascii_iterator" (.inl rfl)) ⟨_, Heap.get?_push_size _ rfl, rfl, rfl⟩ q)
def wiRng1 (fs : WA) : WI := fun ts n S => fs ts n fun xs n1 => match xs with
  | [.int j] => (-(2 ^ 62) ≤ j ∧ j < 2 ^ 62) ∧ S (rangeT 0 j.toNat) n1
  | _ => False
def wiRng2 (fs : WA) : WI := fun ts n S => fs ts n fun xs n1 => match xs with
  | [.int i, .int j] => (-(2 ^ 62) ≤ i ∧ i < 2 ^ 62 ∧ -(2 ^ 62) ≤ j ∧ j < 2 ^ 62) ∧ S (rangeT i (j - i).toNat) n1
  | _ => False
theorem qi_rng1 (hg : Gl X "range") (hm : X.mg "range" = none) (ha : QA X [e] fs) (hs : starEach [e] X.env = [(false, eval e X.env)] := by rfl) : QI X tg (.Call (.Name "range" p) [e] [] pos) (wiRng1 fs) :=
  PI.imp (pi_range1 hg hm ha hs) fun σ H R ⟨am, Hs, ts, n, S, sp, re, h, k⟩ => ⟨am, Hs, ts, n, _, sp, re, h, fun xs n1 hx vs Hs1 H1 e1 rx => by
    split at hx
    · obtain ⟨v, rfl, h1⟩ := rx.one
      simp only [Rep] at h1; subst h1
      exact ⟨_, rfl, hx.1.1, hx.1.2, k _ n1 hx.2 _ Hs1 H1 e1 walkT_range⟩
    · exact hx.elim⟩
theorem qi_rng2 {e2 : Expr} (hg : Gl X "range") (hm : X.mg "range" = none) (ha : QA X [e, e2] fs) (hs : starEach [e, e2] X.env = [(false, eval e X.env), (false, eval e2 X.env)] := by rfl) (hs2 : starEach [e2] X.env = [(false, eval e2 X.env)] := by rfl) : QI X tg (.Call (.Name "range" p) [e, e2] [] pos) (wiRng2 fs) :=
  PI.imp (pi_range2 hg hm ha hs hs2) fun σ H R ⟨am, Hs, ts, n, S, sp, re, h, k⟩ => ⟨am, Hs, ts, n, _, sp, re, h, fun xs n1 hx vs Hs1 H1 e1 rx => by
    split at hx
    · obtain ⟨v, r, rfl, h1, h2⟩ := Reps.cons_iff.mp rx
      obtain ⟨v', rfl, h3⟩ := h2.one
      simp only [Rep] at h1 h3; subst h1 h3
      exact ⟨_, _, rfl, hx.1, k _ n1 hx.2 _ Hs1 H1 e1 walkT_range⟩
    · exact hx.elim⟩
end
/-! ### for -/
theorem Ext.rebase {am : Option Addr} {Hs0 H0 Hs H : Hp} {n : Nat} (x : Ext am Hs0 H0 Hs H n) : Ext am Hs H0 Hs H n := ⟨x.spl, Same.refl _, x.keep, fun a o e => .inl e⟩
theorem Ext.unbase {am : Option Addr} {Hs0 H0 Hs H Hs' H' : Hp} {n n' : Nat} (x : Ext am Hs0 H0 Hs H n) (y : Ext am Hs H0 Hs' H' n') : Ext am Hs0 H0 Hs' H' n' :=
  ⟨y.spl, x.same.trans y.same, y.keep, fun a o e => (y.new a o e).elim (x.new a o) .inr⟩
theorem SEnds.rebase {K : PySem.W.Frag} {am : Option Addr} {Hs0 H0 Hs H : Hp} {n : Nat} {W : WEnds} {D : Ends} (x : Ext am Hs0 H0 Hs H n) (k : SEnds K am H0 Hs0 W D) : SEnds K am H0 Hs W D :=
  ⟨fun σ H' ts n' ⟨Hs', y, b⟩ h => k.nx σ H' ts n' ⟨Hs', x.unbase y, b⟩ h, fun v H' Hs' r n' y rv h => k.rt v H' Hs' r n' (x.unbase y) rv h,
   fun σ H' ts n' ⟨Hs', y, b⟩ h => k.bk σ H' ts n' ⟨Hs', x.unbase y, b⟩ h, fun σ H' ts n' ⟨Hs', y, b⟩ h => k.ct σ H' ts n' ⟨Hs', x.unbase y, b⟩ h⟩
def wFor (g : WG) (wb : WS) (W : WEnds) : List T → Env → Nat → Prop
  | [], ts, n => W.nx ts n
  | x :: r, ts, n => g x ts n fun ts1 n1 => wb { W with nx := wFor g wb W r, ct := wFor g wb W r, bk := W.nx } ts1 n1
def wsFor (fi : WI) (g : WG) (wb : WS) : WS := fun W ts n => fi ts n fun xs n1 => wFor g wb W xs ts n1
section
variable {X : Cx} {tg iter : Expr} {body : List Stmt} {fi : WI} {g : WG} {wb : WS} {pos : Pos}
theorem qs_for [XwI] (hp : PassesOwn (model X.prog X.w) X.A X.env X.xe) (hc : X.calm = true) (hi : QI X tg iter fi) (hg : QG X tg g) (hb : QSs X body wb) (hs : ∀ x, foldedSetIterable iter X.env x = pure x := by intro _; rfl) :
    QS X (.For tg iter body [] pos) (wsFor fi g wb) := PS.imp (ps_for hp hc hi hg hb hs) fun D σ H ⟨am, H0, Hs0, ts, n, W, s, h, k, kx⟩ => by
  obtain ⟨Hs, x, b⟩ := s
  refine ⟨am, Hs, ts, n, _, x.spl, b.x x kx, h, fun xs n1 hx J Hs1 H1 e1 wk => ?_⟩
  have x1 := x.trans e1
  have k1 := k.rebase x1
  have kx1 : ∀ σ', XAt X.K am H0 Hs1 σ' := fun σ' e n' cls d Hs' H' r y q => kx.any σ' e n' cls d Hs' H' r (x1.unbase y) q
  refine ⟨fun i m σ' H' => m = xs.length - i ∧ i ≤ xs.length ∧ ∃ ts' n', ST X.K am H0 Hs1 σ' H' ts' n' ∧ wFor g wb W (xs.drop i) ts' n', ⟨xs.length, by simp, Nat.zero_le _, ts, n1, ⟨Hs1, x1.rebase, b.ext e1⟩, hx⟩, ?_⟩
  rintro i m σ' H' ⟨rfl, hi, ts', n', ⟨Hs', x', b'⟩, h'⟩
  by_cases hlt : i < xs.length
  · refine .inr ⟨wk.goes i H' hlt (x'.same.trans x'.spl.sub), fun σ2 H2 => ∃ ts2 n2, ST X.K am H0 Hs1 σ2 H2 ts2 n2 ∧ wFor g wb W (xs.drop (i + 1)) ts2 n2, fun σ2 H2 ⟨ts2, n2, s2, h2⟩ => ⟨xs.length - (i + 1), by omega, rfl, hlt, ts2, n2, s2, h2⟩, fun v H2 y => ?_⟩
    obtain ⟨Hs2, t, e2, et, rt⟩ := wk.yields i H' v H2 Hs' n' hlt x'.spl x'.same y
    have ed : xs.drop i = t :: xs.drop (i + 1) := by
      rw [List.drop_eq_getElem_cons hlt]
      congr 1
      have := List.getElem?_eq_getElem hlt
      rw [this] at et
      exact Option.some.inj et
    rw [ed] at h'
    have h3 : g t ts' n' fun ts1 n1 => wb { W with nx := wFor g wb W (xs.drop (i + 1)), ct := wFor g wb W (xs.drop (i + 1)), bk := W.nx } ts1 n1 := h'
    refine ⟨am, H0, Hs1, Hs2, ts', n', t, _, x'.trans ⟨e2.spl, e2.same, e2.keep, e2.new⟩, b'.ext e2, rt, h3, fun ts3 n3 h4 σ3 Hs3 H3 x3 _ b3 => ⟨am, H0, Hs1, ts3, n3, _, ⟨Hs3, x3, b3⟩, h4, ⟨fun σ4 H4 ts4 n4 s4 h5 => ⟨ts4, n4, s4, h5⟩, k1.rt, fun σ4 H4 ts4 n4 s4 h5 => k1.nx σ4 H4 ts4 n4 s4 h5, fun σ4 H4 ts4 n4 s4 h5 => ⟨ts4, n4, s4, h5⟩⟩, kx1 σ3⟩⟩
  · have e : i = xs.length := by omega
    subst e
    rw [List.drop_length] at h'
    exact .inl ⟨wk.stops H' (x'.same.trans x'.spl.sub), k1.nx σ' H' ts' n' ⟨Hs', x', b'⟩ h'⟩
end
end TL
namespace TL
open PySem L2
variable [Mach] [CN] [Xw]
/-! ### a thing of one's own changes -/
theorem Spl.fr {am : Option Addr} {Hs H : Hp} {n : Nat} {D : Addr} {o : HO} (s : Spl am Hs H n) (hm : ¬ MC am H D) {m : Addr} (em : am = some m) : Mach.ok (upd H D o) m n ∧ ∀ a, Mach.foot (upd H D o) m a ↔ Mach.foot H m a :=
  Mach.frame (s.mok m em).ok fun a q => upd_ne fun z => hm ⟨m, em, z ▸ q⟩
theorem Spl.mut {am : Option Addr} {Hs H : Hp} {n : Nat} {D : Addr} (s : Spl am Hs H n) (h0 : Hs D = none) (hm : ¬ MC am H D) (o : HO) : Spl am Hs (upd H D o) n :=
  ⟨fun a u e => by rw [upd_ne (ne_of_none e h0)]; exact s.sub a u e, fun m em => ⟨(s.fr hm em).1, fun a q => (s.mok m em).off a (((s.fr hm em).2 a).mp q)⟩⟩
theorem MC.mut {am : Option Addr} {Hs H : Hp} {n : Nat} {D a : Addr} {o : HO} (s : Spl am Hs H n) (hm : ¬ MC am H D) : MC am (upd H D o) a ↔ MC am H a :=
  ⟨fun ⟨m, em, q⟩ => ⟨m, em, ((s.fr hm em).2 a).mp q⟩, fun ⟨m, em, q⟩ => ⟨m, em, ((s.fr hm em).2 a).mpr q⟩⟩
theorem Ext.mut {am : Option Addr} {Hs0 H0 Hs H : Hp} {n : Nat} {D : Addr} (x : Ext am Hs0 H0 Hs H n) (hb : H0 D = none) (h0 : Hs D = none) (hm : ¬ MC am H D) (o : HO) : Ext am Hs0 H0 Hs (upd H D o) n where
  spl := x.spl.mut h0 hm o
  same := x.same
  keep := ⟨fun a u e q => by rw [upd_ne (ne_of_none e hb)]; exact x.keep.at_ a u e q, fun a q => x.keep.mc a ((MC.mut x.spl hm).mp q), fun a e => by
    by_cases z : a = D
    · rw [z]; exact hb
    · rw [upd_ne z] at e; exact x.keep.dom a e⟩
  new := x.new
theorem OwnAt.mut {K : PySem.W.Frag} {am : Option Addr} {Hs H : Hp} {l D : Addr} {t : T} {o : HO} (h : OwnAt K am Hs H l t) (ne : l ≠ D) : OwnAt K am Hs (upd H D o) l t := by
  cases t with
  | lst xs => obtain ⟨vs, e, r⟩ := h; exact ⟨vs, by rw [upd_ne ne]; exact e, r⟩
  | dct xs => obtain ⟨vs, e, r⟩ := h; exact ⟨vs, by rw [upd_ne ne]; exact e, r⟩
  | obj C xs => obtain ⟨C, dx, vs, e0, e, r⟩ := h; exact ⟨C, dx, vs, e0, by rw [upd_ne ne]; exact e, r⟩
  | _ => exact h.elim
theorem RepE0.mut {K : PySem.W.Frag} {am : Option Addr} {Hs H : Hp} {n : Nat} {σ : L2.St} {ts : Env} {D : Addr} {o : HO} (h : RepE0 K am Hs H σ ts) (s : Spl am Hs H n) (hm : ¬ MC am H D) (hn : ∀ (i : Nat) (t : T), ts[i]? = some (.own t) → σ[i]? ≠ some (some (.ref D))) : RepE0 K am Hs (upd H D o) σ ts :=
  ⟨h.len, fun i sl e => by
    have q := h.at_ i sl e
    cases sl with
    | no => trivial
    | tr t => exact q
    | own t =>
      obtain ⟨l, e1, e2, e3, e4⟩ := q
      exact ⟨l, e1, e2, fun z => e3 ((MC.mut s hm).mp z), e4.mut fun z => hn i t e (by rw [e1, z])⟩, h.dis⟩
/-! ### the slots of a comprehension -/
theorem wipe_get (σ : L2.St) : ∀ (vs : List Nat) (j : Nat), (wipe σ vs)[j]? = if j ∈ vs then σ[j]?.map (fun _ => none) else σ[j]?
  | [], j => by simp [wipe]
  | v :: vs, j => by
    unfold wipe
    by_cases q : v = j
    · subst q
      by_cases hl : v < (wipe σ vs).length
      · rw [List.getElem?_set_self hl, if_pos (List.mem_cons_self ..)]
        rw [wipe_length] at hl
        rw [List.getElem?_eq_getElem hl]; rfl
      · rw [List.getElem?_eq_none (by simpa using hl), if_pos (List.mem_cons_self ..)]
        rw [wipe_length] at hl
        rw [List.getElem?_eq_none (by simpa using hl)]; rfl
    · rw [List.getElem?_set_ne q, wipe_get σ vs j]
      by_cases m : j ∈ vs
      · rw [if_pos m, if_pos (List.mem_cons_of_mem _ m)]
      · rw [if_neg m, if_neg (by simp [m]; exact fun z => q z.symm)]
theorem wipe_set {σ : L2.St} {vs : List Nat} {i : Nat} {x : Option V} (h : i ∈ vs) : wipe (σ.set i x) vs = wipe σ vs := by
  apply List.ext_getElem?
  intro j
  rw [wipe_get, wipe_get]
  by_cases q : j ∈ vs
  · rw [if_pos q, if_pos q]
    by_cases e : i = j
    · subst e
      by_cases hl : i < σ.length
      · rw [List.getElem?_set_self hl, List.getElem?_eq_getElem hl]; rfl
      · rw [List.getElem?_eq_none (by simpa using hl), List.getElem?_eq_none (by simpa using hl)]
    · rw [List.getElem?_set_ne e]
  · rw [if_neg q, if_neg q]
    have e : i ≠ j := fun z => q (z ▸ h)
    rw [List.getElem?_set_ne e]
def wipeT (ts : Env) : List Nat → Env
  | [] => ts
  | v :: vs => (wipeT ts vs).set v .no
theorem wipeT_length (ts : Env) : ∀ vs : List Nat, (wipeT ts vs).length = ts.length
  | [] => rfl
  | v :: vs => by unfold wipeT; rw [List.length_set, wipeT_length ts vs]
theorem wipeT_get {ts : Env} : ∀ {vs : List Nat} {j : Nat} {s : Sl}, (wipeT ts vs)[j]? = some s → s = .no ∨ (j ∉ vs ∧ ts[j]? = some s)
  | [], j, s, h => .inr ⟨by simp, h⟩
  | v :: vs, j, s, h => by
    unfold wipeT at h
    by_cases q : v = j
    · subst q
      by_cases hl : v < (wipeT ts vs).length
      · rw [List.getElem?_set_self hl] at h; cases h; exact .inl rfl
      · rw [List.getElem?_eq_none (by simpa using hl)] at h; cases h
    · rw [List.getElem?_set_ne q] at h
      exact (wipeT_get h).imp id fun ⟨m, e⟩ => ⟨by simp [m]; exact fun z => q z.symm, e⟩
theorem RepB.wipe {K : PySem.W.Frag} {am : Option Addr} {Hb Hs H : Hp} {σ : L2.St} {ts : Env} (h : RepB K am Hb Hs H σ ts) (vs : List Nat) : RepB K am Hb Hs H (L2.wipe σ vs) (wipeT ts vs) := by
  have sp : ∀ (j : Nat) (t : T), (wipeT ts vs)[j]? = some (.own t) → ts[j]? = some (.own t) ∧ (L2.wipe σ vs)[j]? = σ[j]? := fun j t e => by
    rcases wipeT_get e with z | ⟨m, z⟩
    · cases z
    · exact ⟨z, by rw [wipe_get, if_neg m]⟩
  refine ⟨⟨by rw [wipeT_length, wipe_length]; exact h.re.len, fun j s e => ?_, fun a b t u l hab e1 e2 e3 e4 => ?_⟩, fun j t l e1 e2 => ?_⟩
  · rcases wipeT_get e with z | ⟨m, z⟩
    · rw [z]; trivial
    · rw [wipe_get, if_neg m]; exact h.re.at_ j s z
  · obtain ⟨f1, g1⟩ := sp a t e1
    obtain ⟨f2, g2⟩ := sp b u e2
    rw [g1] at e3
    rw [g2] at e4
    exact h.re.dis a b t u l hab f1 f2 e3 e4
  · obtain ⟨f1, g1⟩ := sp j t e1
    rw [g1] at e2
    exact h.nw j t l f1 e2
inductive Tgt where
  | one (i : Nat) | many (is : List Nat)
def gNames : List Nat → TGs
  | [] => gNil
  | i :: r => gCons (gName i) (gNames r)
def Tgt.g (K : PySem.W.Frag) : Tgt → TG
  | .one i => gName i
  | .many is => gTup K is.length (gNames is)
def Tgt.ix : Tgt → List Nat
  | .one i => [i]
  | .many is => is
def putMany : List Nat → List T → Env → Env
  | i :: r, x :: xs, ts => putMany r xs (ts.set i (.tr x))
  | _, _, ts => ts
def Tgt.put : Tgt → T → Env → Option Env
  | .one i, t, ts => some (ts.set i (.tr t))
  | .many is, .tup xs, ts => if xs.length = is.length then some (putMany is xs ts) else none
  | .many _, _, _ => none
theorem gNames_ok {K : PySem.W.Frag} {am : Option Addr} {Hb Hs H : Hp} {vs : List Nat} {σ0 : L2.St} {Q : L2.St → Hp → Prop} : ∀ (is : List Nat) (xs : List T) (ws : List V) (σ : L2.St) (ts : Env), xs.length = is.length → (∀ i ∈ is, i ∈ vs) → Reps K am Hs xs ws → RepB K am Hb Hs H σ ts → L2.wipe σ vs = L2.wipe σ0 vs →
    (∀ σ', RepB K am Hb Hs H σ' (putMany is xs ts) → L2.wipe σ' vs = L2.wipe σ0 vs → Q σ' H) → gNames is ws σ H Q
  | [], [], ws, σ, ts, _, _, r, b, w, k => ⟨Reps.nil_iff.mp r, k σ b w⟩
  | i :: is, x :: xs, ws, σ, ts, hl, hv, r, b, w, k => by
    obtain ⟨v, q, rfl, r1, r2⟩ := Reps.cons_iff.mp r
    exact ⟨v, q, rfl, gNames_ok is xs q (σ.set i (some v)) (ts.set i (.tr x)) (by simpa using hl) (fun j hj => hv j (List.mem_cons_of_mem _ hj)) r2 (b.set i r1) (by rw [wipe_set (hv i (List.mem_cons_self ..))]; exact w) k⟩
  | [], _ :: _, _, _, _, hl, _, _, _, _, _ => by cases hl
  | _ :: _, [], _, _, _, hl, _, _, _, _, _ => by cases hl
theorem Tgt.ok {K : PySem.W.Frag} {am : Option Addr} {Hb Hs H : Hp} {n : Nat} {vs : List Nat} {tg : Tgt} {t : T} {v : V} {σ : L2.St} {ts ts' : Env} {Q : L2.St → Hp → Prop} (sp : Spl am Hs H n) (hv : ∀ i ∈ tg.ix, i ∈ vs) (r : Rep K am Hs t v) (b : RepB K am Hb Hs H σ ts) (e : tg.put t ts = some ts')
    (k : ∀ σ', RepB K am Hb Hs H σ' ts' → L2.wipe σ' vs = L2.wipe σ vs → Q σ' H) : tg.g K v σ H Q := by
  cases tg with
  | one i =>
    cases e
    exact k _ (b.set i r) (wipe_set (hv i (List.mem_cons_self ..)))
  | many is =>
    cases t with
    | tup xs =>
      simp only [Tgt.put] at e
      by_cases hl : xs.length = is.length
      · rw [if_pos hl] at e
        cases e
        simp only [Rep] at r
        obtain ⟨a, ws, rfl, h1, h2⟩ := r
        exact ⟨a, ws, rfl, same_sqT sp.sub h1, by rw [← h2.length]; exact hl, gNames_ok is xs ws σ ts hl hv h2 b rfl k⟩
      · rw [if_neg hl] at e; cases e
    | _ => cases e
/-! ### list comprehensions -/
def wLcL (tg : Tgt) (t : WT) (fe : WE) (ts : Env) (R : T → Nat → Prop) : List T → List T → Nat → Prop
  | [], acc, n => R (.lst acc) n
  | x :: r, acc, n => match tg.put x ts with
    | some ts1 => t ts1 n fun c n1 => if c = true then fe ts1 n1 fun y n2 => acc.length < sizeLine ∧ wLcL tg t fe ts R r (acc ++ [y]) n2 else wLcL tg t fe ts R r acc n1
    | none => False
def wLc (fi : WI) (tg : Tgt) (t : WT) (fe : WE) (vs : List Nat) : WE := fun ts n R => fi ts n fun xs n1 => wLcL tg t fe (wipeT ts vs) R xs [] n1
/-- an expression that makes a new thing of one's own -/
def tF (K : PySem.W.Frag) (f : WE) : TE := fun σ H Q => ∃ (am : Option Addr) (Hs : Hp) (ts : Env) (n : Nat) (R : T → Nat → Prop), Spl am Hs H n ∧ RepE K am Hs H σ ts ∧ f ts n R ∧
  ∀ r n', R r n' → ∀ p Hs' H', Ext am Hs H Hs' H' n' → H p = none → Hs' p = none → ¬ MC am H' p → OwnAt K am Hs' H' p r → Q (.ref p) H'
abbrev QF (X : Cx) (e : Expr) (f : WE) : Prop := PE X e (tF X.K f)
theorem Ext.share {am : Option Addr} {Hs H Hs' H' : Hp} {n : Nat} {p : Addr} {o : HO} (x : Ext am Hs H Hs' H' n) (hp : H p = none) (h0 : Hs' p = none) (hm : ¬ MC am H' p) (e : H' p = some o) : Ext am Hs H (upd Hs' p o) H' n where
  spl := ⟨fun a u q => by
    by_cases z : a = p
    · subst z; rw [upd_same] at q; rw [e]; exact q
    · rw [upd_ne z] at q; exact x.spl.sub a u q, fun m em => ⟨(x.spl.mok m em).ok, fun a q => by
      have ne : a ≠ p := fun z => hm ⟨m, em, z ▸ q⟩
      rw [upd_ne ne]
      exact (x.spl.mok m em).off a q⟩⟩
  same := x.same.trans (Same.upd_new h0)
  keep := x.keep
  new := fun a u q => by
    by_cases z : a = p
    · subst z; exact .inr hp
    · rw [upd_ne z] at q; exact x.new a u q
theorem ownAt_rep {K : PySem.W.Frag} {am : Option Addr} {Hs H : Hp} {p : Addr} {t : T} (h0 : Hs p = none) (h : OwnAt K am Hs H p t) : ∃ o, H p = some o ∧ Rep K am (upd Hs p o) t (.ref p) := by
  cases t with
  | lst xs => obtain ⟨vs, e, r⟩ := h; exact ⟨_, e, by simp only [Rep]; exact ⟨p, vs, rfl, upd_same, Reps.mono (Same.upd_new h0) _ _ r⟩⟩
  | dct xs => obtain ⟨vs, e, r⟩ := h; exact ⟨_, e, by simp only [Rep]; exact ⟨p, vs, rfl, .inl upd_same, RepK.mono (Same.upd_new h0) _ _ r⟩⟩
  | obj C xs => obtain ⟨C, dx, vs, e0, e, r⟩ := h; exact ⟨_, e, by simp only [Rep]; exact ⟨p, C, dx, vs, rfl, e0, upd_same, RepF.mono (Same.upd_new h0) _ _ r⟩⟩
  | _ => exact h.elim
theorem q_of_f {X : Cx} {e : Expr} {f : WE} (h : QF X e f) : QE X e f := PE.imp h fun σ H Q ⟨am, Hs, ts, n, R, sp, re, h, k⟩ => ⟨am, Hs, ts, n, R, sp, re, h, fun r n' hr p Hs' H' x hp h0 hm ow => by
  obtain ⟨o, e, rp⟩ := ownAt_rep h0 ow
  exact k r n' hr _ _ H' (x.share hp h0 hm e) rp⟩
theorem mc_new {am : Option Addr} {Hs H : Hp} {n : Nat} {p : Addr} {o : HO} (s : Spl am Hs H n) (hp : H p = none) : ¬ MC am (upd H p o) p := fun z => by
  obtain ⟨m, em, q⟩ := MC.lay s hp z
  obtain ⟨u, e⟩ := Mach.dom (s.mok m em).ok q
  rw [hp] at e; cases e
/-- the reading of a comprehension -/
theorem lc_read {K : PySem.W.Frag} {fi : WI} {tg : Tgt} {t : WT} {fe : WE} {vs : List Nat} (hv : ∀ i ∈ tg.ix, i ∈ vs) {σ : L2.St} {H : Hp} {Q : VK} (h : tF K (wLc fi tg t fe vs) σ H Q) : tLc (tTI K fi) (tg.g K) (@tTT _ _ Xw.no K t) (@tT _ _ Xw.no K fe) vs σ H Q := by
  obtain ⟨am, Hs, ts, n, R, sp, re, h, k⟩ := h
  refine ⟨am, Hs, ts, n, _, sp, re, h, fun xs n1 hx J Hs1 H1 e1 wk D hD => ?_⟩
  have b0 : RepB K am (fun _ => none) Hs H σ ts := ⟨re.toRepE0, fun _ _ _ _ _ => rfl⟩
  have b1 := (b0.ext e1).wipe vs
  have own1 : ∀ (i : Nat) (u : T), (wipeT ts vs)[i]? = some (.own u) → (L2.wipe σ vs)[i]? ≠ some (some (.ref D)) := fun i u e z => by
    obtain ⟨l, q1, q2, q3, q4⟩ := b1.re.at_ i _ e
    rw [z] at q1
    cases q1
    obtain ⟨o, ho⟩ := q4.some
    rw [hD] at ho; cases ho
  refine ⟨fun i m H' => m = xs.length - i ∧ i ≤ xs.length ∧ ∃ Hs' acc av n', Ext am Hs1 H1 Hs' H' n' ∧ H' D = some (.lst av) ∧ Hs' D = none ∧ ¬ MC am H' D ∧ Reps K am Hs' acc av ∧ RepB K am (fun _ => none) Hs' H' (L2.wipe σ vs) (wipeT ts vs) ∧ wLcL tg t fe (wipeT ts vs) R (xs.drop i) acc n', ?_, ?_⟩
  · have x0 := Ext.lay1 e1.spl hD (HO.lst [])
    exact ⟨xs.length, by simp, Nat.zero_le _, Hs1, [], [], n1, x0, upd_same, e1.spl.sub.free hD, mc_new e1.spl hD, Reps.nil_iff.mpr rfl, b1.ext x0, hx⟩
  · rintro i m H' ⟨rfl, hi, Hs', acc, av, n', x', hd, h0, hm, ra, b', h'⟩
    by_cases hlt : i < xs.length
    · refine .inr ⟨wk.goes i H' hlt (x'.same.trans x'.spl.sub), fun H2 => ∃ Hs2 acc2 av2 n2, Ext am Hs1 H1 Hs2 H2 n2 ∧ H2 D = some (.lst av2) ∧ Hs2 D = none ∧ ¬ MC am H2 D ∧ Reps K am Hs2 acc2 av2 ∧ RepB K am (fun _ => none) Hs2 H2 (L2.wipe σ vs) (wipeT ts vs) ∧ wLcL tg t fe (wipeT ts vs) R (xs.drop (i + 1)) acc2 n2,
        fun H2 ⟨Hs2, acc2, av2, n2, q⟩ => ⟨xs.length - (i + 1), by omega, rfl, hlt, Hs2, acc2, av2, n2, q⟩, fun v H2 y => ?_⟩
      obtain ⟨Hs2, u, e2, eu, ru⟩ := wk.yields i H' v H2 Hs' n' hlt x'.spl x'.same y
      have ed : xs.drop i = u :: xs.drop (i + 1) := by
        rw [List.drop_eq_getElem_cons hlt]
        congr 1
        have := List.getElem?_eq_getElem hlt
        rw [this] at eu
        exact Option.some.inj eu
      rw [ed] at h'
      unfold wLcL at h'
      split at h'
      · rename_i ts1 ep
        have dn : ∀ {Hs3 H3 : Hp} {n3 : Nat}, Ext am Hs' H' Hs3 H3 n3 → H3 D = some (.lst av) ∧ Hs3 D = none ∧ ¬ MC am H3 D := fun {Hs3 H3 n3} e3 => by
          refine ⟨e3.keep.at_ D _ hd hm, ?_, fun z => (e3.keep.mc D z).elim hm fun q => by rw [hd] at q; cases q⟩
          cases q : Hs3 D with
          | none => rfl
          | some o => exact (e3.new D o q).elim (fun z => by rw [h0] at z; cases z) fun z => by rw [hd] at z; cases z
        refine Tgt.ok e2.spl hv ru (b'.ext e2) ep fun σ2 b2 hw => ⟨hw.trans (by
          apply List.ext_getElem?
          intro j
          rw [wipe_get]
          by_cases q : j ∈ vs
          · rw [if_pos q, wipe_get, if_pos q]
            cases σ[j]? <;> rfl
          · rw [if_neg q]), am, Hs2, ts1, n', _, e2.spl, b2.re.no, h', fun c n3 hc Hs3 H3 e3 => ?_⟩
        have e23 := e2.trans e3
        cases c with
        | true =>
          refine iteT ⟨am, Hs3, ts1, n3, _, e3.spl, (b2.re.ext e3).no, hc, fun yv n4 hy vy Hs4 H4 e4 ry => ?_⟩
          have e24 := e23.trans e4
          obtain ⟨d1, d2, d3⟩ := dn e24
          have x4 := x'.trans e24
          have hyl := hy.1
          refine ⟨av, d1, by rw [← ra.length]; exact hy.1, Hs4, acc ++ [yv], av ++ [vy], n4, x4.mut hD d2 d3 _, upd_same, d2, fun z => d3 ((MC.mut e4.spl d3).mp z), (Reps.mono e24.same _ _ ra).append (Reps.mk_cons ry (Reps.nil_iff.mpr rfl)), ⟨(b'.ext e24).re.mut e4.spl d3 own1, fun _ _ _ _ _ => rfl⟩, hy.2⟩
        | false =>
          obtain ⟨d1, d2, d3⟩ := dn e23
          exact iteF ⟨Hs3, acc, av, n3, x'.trans e23, d1, d2, d3, Reps.mono e23.same _ _ ra, b'.ext e23, hc⟩
      · exact h'.elim
    · have e : i = xs.length := by omega
      subst e
      rw [List.drop_length] at h'
      exact .inl ⟨wk.stops H' (x'.same.trans x'.spl.sub), k (.lst acc) n' h' D Hs' H' (e1.trans x') (e1.keep.dom D hD) h0 hm ⟨av, hd, ra⟩⟩
section
variable {X : Cx} {elt tg iter : Expr} {ifs : List Expr} {scope : Scope} {own : List (Str × Nat)} {pos : Pos} {fi : WI} {g : Tgt} {t : WT} {fe : WE}
abbrev QTs (X : Cx) (es : List Expr) (t : WT) : Prop := PTs X es (@tTT _ _ Xw.no X.K t)
theorem qf_lc (hc : X.calm = true) (hN : X.N.Nodup) (hi : QI X tg iter fi) (ok : BlkOk X.N X.env.scope scope own) (hv : ∀ i ∈ g.ix, i ∈ own.map (·.2))
    (hg : ∀ (s : Shared) (H : Hp) (C : Addr) (cl : List (Str × Addr)) (fp : List Addr), PG (X.blk s H scope (compEnvC scope cl C X.env) fp) tg (g.g X.K)) (ht : ∀ (s : Shared) (H : Hp) (C : Addr) (cl : List (Str × Addr)) (fp : List Addr), QTs (X.blk s H scope (compEnvC scope cl C X.env) fp) ifs t)
    (he : ∀ (s : Shared) (H : Hp) (C : Addr) (cl : List (Str × Addr)) (fp : List Addr), @QE _ _ Xw.no (X.blk s H scope (compEnvC scope cl C X.env) fp) elt fe) (hs : ∀ x, foldedSetIterable iter X.env x = pure x := by intro _; rfl) :
    QF X (.ListComp elt [⟨tg, iter, ifs, 0⟩] scope pos) (wLc fi g t fe (own.map (·.2))) := PE.imp (pe_lc hc hN hi ok hg ht he hs) fun σ H Q h => lc_read hv h
def wTrue : WT := fun _ n R => R true n
theorem qts_nil : QTs X [] wTrue := ⟨fun pins s σ H Q I ⟨am, Hs, ts, n, R, sp, re, h, k⟩ => pts_nil.run pins s σ H Q I (k true n h Hs H (Ext.refl sp))⟩
theorem qts_one {c : Expr} (h : @QT _ _ Xw.no X c t) : QTs X [c] t := pts_one h
end
end TL
namespace TL
open PySem L2
variable [Mach] [CN] [Xw]
/-! ### one's own things in slots -/
theorem RepB.setOwn {K : PySem.W.Frag} {am : Option Addr} {Hb Hs H : Hp} {σ : L2.St} {ts : Env} (h : RepB K am Hb Hs H σ ts) (i : Nat) {r : T} {p : Addr} (hb : Hb p = none) (h0 : Hs p = none) (hm : ¬ MC am H p) (ow : OwnAt K am Hs H p r)
    (hn : ∀ (j : Nat) (t : T), j ≠ i → ts[j]? = some (.own t) → σ[j]? ≠ some (some (.ref p))) : RepB K am Hb Hs H (σ.set i (some (.ref p))) (ts.set i (.own r)) := by
  have sp : ∀ (j : Nat) (t : T), j ≠ i → (ts.set i (.own r))[j]? = some (.own t) → ts[j]? = some (.own t) := fun j t q e => by
    rw [List.getElem?_set_ne (Ne.symm q)] at e; exact e
  have at_i : ∀ {x : Option V}, (σ.set i (some (.ref p)))[i]? = some x → x = some (.ref p) := fun {x} e => by
    by_cases hl : i < σ.length
    · rw [List.getElem?_set_self hl] at e; exact (Option.some.inj e).symm
    · rw [List.getElem?_eq_none (by simpa using hl)] at e; cases e
  refine ⟨⟨by simp [h.re.len], fun j s e => ?_, fun a b t u l hab e1 e2 e3 e4 => ?_⟩, fun j t l e1 e2 => ?_⟩
  · by_cases q : i = j
    · subst q
      by_cases hl : i < ts.length
      · rw [List.getElem?_set_self hl] at e
        cases e
        exact ⟨p, by rw [List.getElem?_set_self (by rw [← h.re.len]; exact hl)], h0, hm, ow⟩
      · rw [List.getElem?_eq_none (by simpa using hl)] at e; cases e
    · rw [List.getElem?_set_ne q] at e ⊢
      exact h.re.at_ j s e
  · by_cases qa : a = i
    · by_cases qb : b = i
      · exact hab (qa.trans qb.symm)
      · subst qa
        have z := at_i e3
        cases z
        rw [List.getElem?_set_ne (Ne.symm qb)] at e4
        exact hn b u qb (sp b u qb e2) e4
    · rw [List.getElem?_set_ne (Ne.symm qa)] at e3
      by_cases qb : b = i
      · subst qb
        have z := at_i e4
        cases z
        exact hn a t qa (sp a t qa e1) e3
      · rw [List.getElem?_set_ne (Ne.symm qb)] at e4
        exact h.re.dis a b t u l hab (sp a t qa e1) (sp b u qb e2) e3 e4
  · by_cases q : j = i
    · subst q
      have z := at_i e2
      cases z
      exact hb
    · rw [List.getElem?_set_ne (Ne.symm q)] at e2
      exact h.nw j t l (sp j t q e1) e2
/-- the slot i's own thing at l becomes another -/
theorem RepB.updOwn {K : PySem.W.Frag} {am : Option Addr} {Hb Hs H : Hp} {n : Nat} {σ : L2.St} {ts : Env} (h : RepB K am Hb Hs H σ ts) (s : Spl am Hs H n) {i : Nat} {t t' : T} {l : Addr} {o : HO} (e : ts[i]? = some (.own t)) (el : σ[i]? = some (some (.ref l))) (ow : OwnAt K am Hs (upd H l o) l t') :
    RepB K am Hb Hs (upd H l o) σ (ts.set i (.own t')) := by
  obtain ⟨l', e1, e2, e3, e4⟩ := h.re.at_ i _ e
  rw [el] at e1
  cases e1
  have sp : ∀ (j : Nat) (u : T), j ≠ i → (ts.set i (.own t'))[j]? = some (.own u) → ts[j]? = some (.own u) := fun j u q e => by
    rw [List.getElem?_set_ne (Ne.symm q)] at e; exact e
  refine ⟨⟨by simp [h.re.len], fun j sl ej => ?_, fun a b u v c hab f1 f2 f3 f4 => ?_⟩, fun j u c f1 f2 => ?_⟩
  · by_cases q : i = j
    · subst q
      have hl : i < ts.length := by
        rcases Nat.lt_or_ge i ts.length with z | z
        · exact z
        · rw [List.getElem?_eq_none z] at e; cases e
      rw [List.getElem?_set_self hl] at ej
      cases ej
      exact ⟨l, el, e2, fun z => e3 ((MC.mut s e3).mp z), ow⟩
    · rw [List.getElem?_set_ne q] at ej
      have q2 := h.re.at_ j sl ej
      cases sl with
      | no => trivial
      | tr u => exact q2
      | own u =>
        obtain ⟨c, g1, g2, g3, g4⟩ := q2
        exact ⟨c, g1, g2, fun z => g3 ((MC.mut s e3).mp z), g4.mut fun z => h.re.dis i j t u l q e ej el (by rw [g1, z])⟩
  · have g : ∀ (j : Nat) (u : T), (ts.set i (.own t'))[j]? = some (.own u) → ∃ u', ts[j]? = some (.own u') := fun j u f => by
      by_cases q : j = i
      · subst q; exact ⟨t, e⟩
      · exact ⟨u, sp j u q f⟩
    obtain ⟨u', k1⟩ := g a u f1
    obtain ⟨v', k2⟩ := g b v f2
    exact h.re.dis a b u' v' c hab k1 k2 f3 f4
  · by_cases q : j = i
    · subst q
      rw [el] at f2
      cases f2
      exact h.nw j t l e el
    · exact h.nw j u c (sp j u q f1) f2
def wsOwn (i : Nat) (f : WE) : WS := fun W ts n => f ts n fun r n1 => W.nx (ts.set i (.own r)) n1
theorem tF_at {K : PySem.W.Frag} {f : WE} {am : Option Addr} {H0 Hs0 : Hp} {σ : L2.St} {H : Hp} {ts : Env} {n : Nat} {R : T → Nat → Prop} {Q : VK} (kx : XAt K am H0 Hs0 σ) (s : ST K am H0 Hs0 σ H ts n) (h : f ts n R)
    (k : ∀ r n', R r n' → ∀ p Hs' H', Ext am Hs0 H0 Hs' H' n' → RepB K am H0 Hs' H' σ ts → H0 p = none → Hs' p = none → ¬ MC am H' p → OwnAt K am Hs' H' p r → (∀ (j : Nat) (t : T), ts[j]? = some (.own t) → σ[j]? ≠ some (some (.ref p))) → Q (.ref p) H') : tF K f σ H Q := by
  obtain ⟨Hs, x, b⟩ := s
  refine ⟨am, Hs, ts, n, R, x.spl, b.x x kx, h, fun r n' hr p Hs' H' y hp h0 hm ow => k r n' hr p Hs' H' (x.trans y) (b.ext y) (x.keep.dom p hp) h0 hm ow fun j t e z => ?_⟩
  obtain ⟨l, q1, q2, q3, q4⟩ := b.re.at_ j _ e
  rw [z] at q1
  cases q1
  obtain ⟨o, ho⟩ := q4.some
  rw [hp] at ho; cases ho
section
variable {X : Cx} {e : Expr} {f : WE} {fs : WA} {pos : Pos}
theorem qs_own {i : Nat} {x : Str} {pos' : Pos} (hN : X.N.Nodup) (hi : X.N[i]? = some x) (hx : Loc X.env.scope x) (he : QF X e f) (hs : swapsWith e (some (.Name x pos')) pos.line X.env = pure false := by rfl) (hf : X.fn x = true ∨ X.env.scope.names.lookup x = some .local := by first | exact .inl rfl | exact .inr rfl | assumption) :
    QS X (.Assign [.Name x pos'] e pos) (wsOwn i f) := PS.imp (ps_set hN hi hx he hs hf) fun D σ H ⟨am, H0, Hs0, ts, n, W, s, h, k, kx⟩ =>
  tF_at kx s h fun r n' hr p Hs' H' y b hb h0 hm ow hn => k.nx _ H' _ n' ⟨Hs', y, b.setOwn i hb h0 hm ow fun j t _ => hn j t⟩ hr
/-- [a, b] as one's own -/
theorem qf_lst {es : List Expr} (h : QA X es fs) : QF X (.List es pos) (wN pLst fs) := PE.imp (pe_lst h) fun σ H Q ⟨am, Hs, ts, n, R, sp, re, h, k⟩ => by
  refine ⟨am, Hs, ts, n, _, sp, re, h, fun x n1 hx vx Hs1 H1 e1 rx => ⟨by rw [← rx.length]; exact hx.1, fun p hp => ?_⟩⟩
  exact k _ n1 hx.2 p Hs1 _ (e1.trans (Ext.lay1 e1.spl hp _)) (e1.keep.dom p hp) (e1.spl.sub.free hp) (mc_new e1.spl hp) ⟨vx, upd_same, rx⟩
/-- list(..) as one's own -/
theorem qf_listOf {x : Str} {p : Pos} {es : List Expr} (hgl : Gl X x) (hm : X.mg x = none) (hv : bootBuiltins x = some (.type "list")) (ha : QA X (e :: es) fs) (hn : x ≠ "__name__" := by decide) (hdb : (x == ("__debug__" : Str)) = false := by decide)
    (he : starEach (e :: es) X.env = (false, eval e X.env) :: starEach es X.env := by rfl) (hpl : (backTo pos (starEach es X.env)).any (·.1) = false := by rfl) : QF X (.Call (.Name x p) (e :: es) [] pos) (wN pListOf fs) :=
  PE.imp (pe_callTy call_list_of hgl hm hv ha hn hdb he hpl) fun σ H Q ⟨am, Hs, ts, n, R, sp, re, h, k⟩ => by
    refine ⟨am, Hs, ts, n, _, sp, re, h, fun x n1 hx vx Hs1 H1 e1 rx => ?_⟩
    have fin : ∀ {us : List T} {vs : List V}, Reps X.K am Hs1 us vs → R (.lst us) n1 → ∀ l, H1 l = none → Q (.ref l) (upd H1 l (.lst vs)) := fun {us vs} r hr l hl =>
      k _ n1 hr l Hs1 _ (e1.trans (Ext.lay1 e1.spl hl _)) (e1.keep.dom l hl) (e1.spl.sub.free hl) (mc_new e1.spl hl) ⟨vs, upd_same, r⟩
    unfold pListOf at hx
    split at hx
    · obtain ⟨v, rfl, h1⟩ := rx.one
      simp only [Rep] at h1
      obtain ⟨p, vs, rfl, h3, h4⟩ := h1
      exact ⟨p, vs, rfl, .inl (SqL.of (e1.spl.sub _ _ h3)), fin h4 hx⟩
    · obtain ⟨v, rfl, h1⟩ := rx.one
      simp only [Rep] at h1
      obtain ⟨p, vs, rfl, h3, h4⟩ := h1
      exact ⟨p, vs, rfl, .inr (same_sqT e1.spl.sub h3), fin h4 hx⟩
    · obtain ⟨v, rfl, h1⟩ := rx.one
      simp only [Rep] at h1
      obtain ⟨p, rfl, h3⟩ := h1
      exact ⟨p, _, rfl, .inl (same_sqL e1.spl.sub h3), fin reps_ints hx⟩
    · exact hx.elim
end
/-! ### append, store by place -/
def wsApp (i : Nat) (f : WE) : WS := fun W ts n => match ts[i]? with
  | some (.own (.lst xs)) => f ts n fun y n1 => xs.length < sizeLine ∧ W.nx (ts.set i (.own (.lst (xs ++ [y])))) n1
  | _ => False
def wsStL (i : Nat) (fv fi : WE) : WS := fun W ts n => fv ts n fun v n1 => match ts[i]? with
  | some (.own (.lst xs)) => fi ts n1 fun ix n2 => match ix with
    | .int k => match ixN xs.length k with
      | some j => W.nx (ts.set i (.own (.lst (xs.set j v)))) n2
      | none => False
    | _ => False
  | _ => False
section
variable {X : Cx} {e ei : Expr} {f fi : WE} {pos apos cpos p p2 : Pos} {x : Str}
theorem own_lst {K : PySem.W.Frag} {am : Option Addr} {Hb Hs H : Hp} {σ : L2.St} {ts : Env} {i : Nat} {xs : List T} (b : RepB K am Hb Hs H σ ts) (e : ts[i]? = some (.own (.lst xs))) : ∃ l vs, σ[i]? = some (some (.ref l)) ∧ Hs l = none ∧ ¬ MC am H l ∧ Hb l = none ∧ H l = some (.lst vs) ∧ Reps K am Hs xs vs := by
  obtain ⟨l, e1, e2, e3, vs, e4, e5⟩ := b.re.at_ i _ e
  exact ⟨l, vs, e1, e2, e3, b.nw i _ l e e1, e4, e5⟩
theorem qs_app (i : Nat) (hv : PE X (.Name x p) (tVar i)) (he : QE X e f) (hbase : attributeBase (.Name x p) "append" X.env (eval (.Name x p) X.env) = eval (.Name x p) X.env := by rfl)
    (hfew : ((backTo cpos (starEach [e] X.env)).all (fun x => !x.1) && (backToKw cpos (keywordEach [] X.env)).all (fun x => x.1.isSome)
      && decide ([e].length + ([] : List Keyword).length + (if ([] : List Keyword).isEmpty then 0 else 1) < 30)) = true := by rfl)
    (hline : (apos.endLine == cpos.line) = true := by rfl) (hs : starEach [e] X.env = (false, eval e X.env) :: starEach [] X.env := by rfl) (hplain : (backTo cpos (starEach [] X.env)).any (·.1) = false := by rfl)
    (hsw : swapsWith (.Call (.Attribute (.Name x p) "append" apos) [e] [] cpos) none pos.line X.env = pure false := by rfl) :
    QS X (.Expr (.Call (.Attribute (.Name x p) "append" apos) [e] [] cpos) pos) (wsApp i f) :=
  PS.imp (ps_expr (pe_bm PySem.F.plainAttrs_list PySem.F.slot_list_append PySem.F.type_list_append mt_append hv (pa_cons he pa_nil hs) hbase hfew hline hs hplain) hsw) fun D σ H ⟨am, H0, Hs0, ts, n, W, s, h, k, kx⟩ => by
    unfold wsApp at h
    split at h
    · rename_i xs e0
      obtain ⟨Hs, y, b⟩ := s
      obtain ⟨l, vs, e1, e2, e3, e4, e5, e6⟩ := own_lst b e0
      refine ⟨.ref l, e1, .inl ⟨rfl, vs, SqL.of e5⟩, tT_at kx ⟨Hs, y, b⟩ h fun r n' hr v Hs' H' y' b' rv => ?_⟩
      obtain ⟨l', vs', f1, f2, f3, f4, f5, f6⟩ := own_lst b' e0
      rw [e1] at f1
      cases f1
      exact ⟨l, vs', v, rfl, rfl, f5, by rw [← f6.length]; exact hr.1, k.nx σ _ _ n' ⟨Hs', y'.mut f4 f2 f3 _, b'.updOwn (t' := .lst (xs ++ [r])) y'.spl e0 e1 ⟨_, upd_same, f6.append (Reps.mk_cons rv (Reps.nil_iff.mpr rfl))⟩⟩ hr.2⟩
    · exact h.elim
end
/-! ### calls of defs -/
abbrev FT := List T → Nat → (T → Nat → Prop) → XE → Prop
def spT (K : PySem.W.Frag) (F : FT) : Sp := fun vs H Q E => ∃ (am : Option Addr) (Hs : Hp) (ts : List T) (n : Nat) (R : T → Nat → Prop) (RE : XE), Spl am Hs H n ∧ Reps K am Hs ts vs ∧ F ts n R RE ∧
  (∀ r n', R r n' → ∀ v Hs' H', Ext am Hs H Hs' H' n' → Rep K am Hs' r v → Q v H') ∧ ∀ x n', RE x n' → ∀ cls d Hs' H', Ext am Hs H Hs' H' n' → RepX K am Hs' x cls d → E cls d H'
def wCall (E : XE) (F : FT) (fa : WA) : WE := fun ts n R => fa ts n fun xs n1 => F xs n1 R E
/-- a def's promise where no repr is under way; it may raise -/
structure FnT (P : Program) (w : World) (K : PySem.W.Frag) (mg : Str → Option Value) (base : Heap) (k : Nat) (f : Addr) (fd : FuncData) (ps : List Str) (sp : Sp) : Prop where
  len : ∀ vs H Q E, sp vs H Q E → vs.length = ps.length
  run : ∀ (A : Around) (outer : List PySem.Env) (s : Shared) (H : Hp) (args : Args) (us : List Value) (vs : List V) (Q : VK) (E : XK), A.guards = some [] → Room k A →
    Env0 P w K mg base A outer s H → BindsTo s fd args (ps.zip us) → Vals vs us → sp vs H Q E → codeAny (model P w) A (.call (.ref f) args) (CR (L2.CX P w) outer P w H s Q E) s
theorem FnT.of {P : Program} {w : World} {K : PySem.W.Frag} {mg : Str → Option Value} {base : Heap} {k : Nat} {f : Addr} {fd : FuncData} {ps : List Str} {sp : Sp} (F : FnOk P w K mg base (L2.CX P w) k f fd ps sp) : FnT P w K mg base k f fd ps sp :=
  ⟨F.len, fun A outer s H args us vs Q E _ => F.run A outer s H args us vs Q E⟩
section
variable {X : Cx} {k : Nat} {f : Addr} {fd : FuncData} {ps : List Str} {F : FT} {sp : Sp} {x : Str} {p pos : Pos} {e : Expr} {es : List Expr} {fa : WA} {ds : List Value} {dvs : List V}
theorem run_fnT {pins : List (Addr × Obj)} {σ : L2.St} {H : Hp} {s : Shared} {Q : VK} {us : List Value} {vs : List V} {W : WX} (G : FnT X.prog X.w X.K X.mg X.base k f fd ps sp) (hg : X.A.guards = some []) (hr : Room k X.A) (hb : Binds X.K fd ps ds) (hd : Vals dvs ds)
    (tk : Takes X W) (I : Inv X pins σ H s) (r : Vals vs us) (h : sp (vs ++ dvs) H Q (fun cls d H' => W cls d σ H')) : wpAny (model X.prog X.w) X.A (call (.ref f) us) (EP X pins σ Q) X.xe s := by
  have rr : Vals (vs ++ dvs) (us ++ ds) := r.append hd
  refine wpAny_call (codeAny_mono (G.run X.A X.stack s H ⟨us, []⟩ _ _ Q _ hg hr I.env0 (hb s us I.kIn (by rw [← rr.length]; exact G.len _ _ _ _ h)) rr h) fun z s' hq => ?_)
  cases z with
  | error e => exact tk e s' (XE.of_call I (fun _ _ _ h => h) hq)
  | ok fl =>
    cases fl with
    | ret u => exact I.after hq
    | _ => exact False.elim hq
theorem spT_at {K : PySem.W.Frag} {am : Option Addr} {Hs H : Hp} {σ : L2.St} {ts : Env} {n1 : Nat} {R : T → Nat → Prop} {Q : VK} {xs : List T} {vs : List V} {Hs1 H1 : Hp} (re : RepE K am Hs H σ ts) (k : ∀ r n', R r n' → ∀ v Hs' H', Ext am Hs H Hs' H' n' → Rep K am Hs' r v → Q v H')
    (e1 : Ext am Hs H Hs1 H1 n1) (rx : Reps K am Hs1 xs vs) (hx : F xs n1 R Xw.RE) : spT K F vs H1 Q fun cls d H' => Xw.W cls d σ H' :=
  ⟨am, Hs1, xs, n1, R, Xw.RE, e1.spl, rx, hx, fun r n' hr v Hs' H' e2 rv => k r n' hr v Hs' H' (e1.trans e2) rv, fun z n' hz cls d Hs' H' e2 q => re.xk z n' cls d Hs' H' hz (e1.trans e2) q⟩
theorem q_call (G : FnT X.prog X.w X.K X.mg X.base k f fd ps (spT X.K F)) (hgd : X.A.guards = some []) (hr : Room k X.A) (hg : Gl X x) (hm : X.mg x = some (.ref f)) (hk : PySem.W.keepIn X.K (.ref f) = true) (hb : Binds X.K fd ps []) (tk : Takes X Xw.W)
    (ha : QA X (e :: es) fa) (hdb : (x == ("__debug__" : Str)) = false := by decide) (he : starEach (e :: es) X.env = (false, eval e X.env) :: starEach es X.env := by rfl) (hpl : (backTo pos (starEach es X.env)).any (·.1) = false := by rfl) :
    QE X (.Call (.Name x p) (e :: es) [] pos) (wCall Xw.RE F fa) := by
  refine ⟨fun pins s σ H Q I h => wpAny_Call_Name_kw (ld_glob I hg hm ?_ hdb)⟩
  obtain ⟨am, Hs, ts, n, R, sp, re, h, k⟩ := h
  refine PySem.W.callWith_K (h₀ := X.base) I.ok.mod.kin hk (thn (ha.run pos pins s σ H (fun vs H1 => spT X.K F vs H1 Q fun cls d H' => Xw.W cls d σ H') I ⟨am, Hs, ts, n, _, sp, re, h, fun xs n1 hxs vs Hs1 H1 e1 rx => spT_at re k e1 rx hxs⟩) fun us s1 ⟨vs, H1, I1, r, q⟩ => ⟨I1.kIn, run_fnT (dvs := []) (ds := []) G hgd hr hb .nil tk I1 r ?_⟩) he hpl
  rw [List.append_nil]; exact q
theorem q_call0 (G : FnT X.prog X.w X.K X.mg X.base k f fd ps (spT X.K F)) (hgd : X.A.guards = some []) (hr : Room k X.A) (hg : Gl X x) (hm : X.mg x = some (.ref f)) (hk : PySem.W.keepIn X.K (.ref f) = true) (hb : Binds X.K fd ps []) (tk : Takes X Xw.W)
    (hdb : (x == ("__debug__" : Str)) = false := by decide) : QE X (.Call (.Name x p) [] [] pos) (wCall Xw.RE F wNil) := by
  refine ⟨fun pins s σ H Q I h => wpAny_Call_Name_kw (ld_glob I hg hm ?_ hdb)⟩
  obtain ⟨am, Hs, ts, n, R, sp, re, h, k⟩ := h
  exact PySem.W.callWith_K0 I.kIn hk (run_fnT (us := []) (vs := []) (dvs := []) (ds := []) G hgd hr hb .nil tk I .nil (spT_at re k (Ext.refl sp) (Reps.nil_iff.mpr rfl) h))
end
def startT (N : List Str) (ts : List T) : Env := ts.map Sl.tr ++ List.replicate (N.length - ts.length) .no
theorem start_rep {K : PySem.W.Frag} {am : Option Addr} {Hb Hs H : Hp} {N : List Str} {ts : List T} {vs : List V} (r : Reps K am Hs ts vs) : RepB K am Hb Hs H (L2.start N vs) (startT N ts) := by
  have sp : ∀ (j : Nat) (s : Sl), (startT N ts)[j]? = some s → s = .no ∨ ∃ t, s = .tr t ∧ ts[j]? = some t := fun j s e => by
    unfold startT at e
    by_cases hl : j < ts.length
    · rw [List.getElem?_append_left (by simpa using hl), List.getElem?_map] at e
      cases q : ts[j]? with
      | none => rw [q] at e; cases e
      | some t => rw [q] at e; exact .inr ⟨t, (Option.some.inj e).symm, rfl⟩
    · rw [List.getElem?_append_right (by simpa using hl)] at e
      have := List.mem_of_getElem? e
      exact .inl (List.eq_of_mem_replicate this)
  refine ⟨⟨?_, fun j s e => ?_, fun i j t u l _ e1 _ _ => ?_⟩, fun j t l e1 _ => ?_⟩
  · unfold L2.start startT
    simp [r.length]
  · rcases sp j s e with z | ⟨t, z, q⟩
    · rw [z]; trivial
    · rw [z]
      obtain ⟨v, hv, rv⟩ := r.get q
      refine ⟨v, ?_, rv⟩
      unfold L2.start
      have hl : j < vs.length := by
        rcases Nat.lt_or_ge j vs.length with z | z
        · exact z
        · rw [List.getElem?_eq_none z] at hv; cases hv
      rw [List.getElem?_append_left (by simpa using hl), List.getElem?_map, hv]; rfl
  · rcases sp i _ e1 with z | ⟨t, z, _⟩
    · cases z
    · cases z
  · rcases sp j _ e1 with z | ⟨t, z, _⟩
    · cases z
    · cases z
section
variable {P : Program} {w : World} {K : PySem.W.Frag} {mg : Str → Option Value} {base : Heap}
/-- the wish of a def's body -/
abbrev xwOf (E : XK) (RE : XE) : Xw := ⟨fun cls d _ H => E cls d H, RE⟩
theorem xwOf_ind {E : XK} {RE : XE} : @XwI (xwOf E RE) := @XwI.mk (xwOf E RE) fun h => h
abbrev cxT (P : Program) (w : World) (K : PySem.W.Frag) (mg : Str → Option Value) (base : Heap) (N : List Str) (qual : Str) (st : Stmt) (f : Addr) (cdv : Value) (A : Around) (outer : List PySem.Env) (s : Shared) (H : Hp) (E : XK) : Cx := cxOf (L2.CX P w) P w K mg base N qual (defScope st) f cdv A outer s H E
/-- the frame's own exceptions pass -/
abbrev Owns (X : Cx) : Prop := PassesOwn (model X.prog X.w) X.A X.env X.xe
theorem takes0 {X : Cx} : Takes X (@Xw.W Xw.no) := fun u s' ⟨a, B, sI, pins, σ, H, cls, d, e, I, nb, up, sky, na, os, ag, w⟩ => w.elim
/-- THE RULE for a def -/
theorem okT {x qual : Str} {st : Stmt} {f : Addr} {fd : FuncData} {N ps : List Str} {k : Nat} {F : FT} (G : Fun K x qual st f fd) (S : FnScope N ps (defScope st)) (hlen : ∀ ts n R RE, F ts n R RE → ts.length = ps.length) (W : XE → WS)
    (hbody : ∀ (cdv : Value) (A : Around) (outer : List PySem.Env) (s : Shared) (H : Hp) (E : XK) [Xw] [XwI], Takes (cxT P w K mg base N qual st f cdv A outer s H E) Xw.W → Owns (cxT P w K mg base N qual st f cdv A outer s H E) → A.guards = some [] → Room k (A.deeper (PyProof.Rows.envOfC qual (defScope st) s.heap.objs.size f cdv)) → QSs (cxT P w K mg base N qual st f cdv A outer s H E) (defBody st) (W Xw.RE))
    (hspec : ∀ ts n R RE, F ts n R RE → W RE { nx := fun _ n => R .non n, rt := R } (startT N ts) n) : FnT P w K mg base (k + 1) f fd ps (spT K F) := by
  have len : ∀ vs H Q E, spT K F vs H Q E → vs.length = ps.length := fun vs H Q E ⟨am, Hs, ts, n, R, RE, sp, re, h, _⟩ => by rw [← re.length]; exact hlen ts n R RE h
  obtain ⟨oc, od, kV, doc, pm, an, cdv, ct, osl, rfl, lk, hcd⟩ := G.ex
  refine ⟨len, fun A outer s H args us vs Q E hgd hr e0 hb r hsp => ?_⟩
  have KX : K.In s.heap := e0.mod.kin.keeps fun b o e => (e0.bs b o e).1
  have hk : ∀ y ∈ ps.zip us, (defScope st).names.lookup y.1 = some .local ∨ ((defScope st).names.lookup y.1 = some .cell ∧ ((cellsFrom (s.heap.objs.size + 1) (defScope st).names []).lookup y.1).isSome = true) := fun y hy =>
    (S.par y.1 (List.of_mem_zip (show (y.1, y.2) ∈ ps.zip us from hy)).1).elim .inl fun q => .inr ⟨q, PySem.W.cellsFrom_some _ _ _ (.inl q)⟩
  refine codeAny_call_function hr.depth (KX _ _ lk) rfl S.co S.gen rfl (PySem.W.codeRec_of KX hcd) (hb _ _ _ _ (wpAny_newFunctionEnv_cells S.kind hk fun env he s1 x => ?_))
  subst he
  refine ⟨(e0.mod.nolimit.keeps fun b o e => (e0.bs b o e).1).keeps x.toInCall.keep, codeAny_func ?_⟩
  have I : Inv (cxT P w K mg base N qual st f cdv A outer s H E) [] (L2.start N vs) H s1 := inv_start S hr.hd e0 (len _ _ _ _ hsp) r x
  obtain ⟨am, Hs, ts, n, R, RE, sp, re, h, kk, kx⟩ := hsp
  refine wpAny_mono ((@hbody cdv A outer s H E (xwOf E RE) xwOf_ind (takes_of rfl rfl rfl rfl) (passes_of rfl) hgd (hr.deeper _)).run [] s1 (L2.start N vs) H { nx := fun _ H' => Q .non H', rt := Q } I ⟨am, H, Hs, startT N ts, n, _, ⟨Hs, Ext.refl sp, start_rep re⟩, hspec ts n R RE h,
    ⟨fun σ H' ts' n' ⟨Hs', y, b⟩ hr => kk .non n' hr .non Hs' H' y (by simp only [Rep]), fun v H' Hs' r n' y rv hr => kk r n' hr v Hs' H' y rv, fun _ _ _ _ _ z => z.elim, fun _ _ _ _ _ z => z.elim⟩, fun z n' cls d Hs' H' hz y q => kx z n' hz cls d Hs' H' y q⟩) (fun fl s' hs => ?_) fun e s' hs => hs
  match fl, hs with
  | .ret u, ⟨v, σ', H', J, rv, q⟩ => exact ⟨v, H', J.os, J.bare, J.base, J.hok, rv, q⟩
  | .next, ⟨σ', H', J, q⟩ => exact ⟨.non, H', J.os, J.bare, J.base, J.hok, rfl, q⟩
  | .brk, ⟨_, _, _, q⟩ => exact q.elim
  | .cont, ⟨_, _, _, q⟩ => exact q.elim
end
end TL
namespace TL
open PySem L2
variable [Mach] [CN] [Xw]
/-! ### defs by names -/
def Def (K : PySem.W.Frag) (mg : Str → Option Value) (x : Str) (st : Stmt) : Prop := ∃ f fd, Fun K x x st f fd ∧ mg x = some (.ref f)
def Cal (P : Program) (w : World) (K : PySem.W.Frag) (mg : Str → Option Value) (base : Heap) (k : Nat) (x : Str) (ps : List Str) (F : FT) : Prop :=
  ∃ f fd, FnT P w K mg base k f fd ps (spT K F) ∧ mg x = some (.ref f) ∧ PySem.W.keepIn K (.ref f) = true ∧ Binds K fd ps []
section
variable {P : Program} {w : World} {K : PySem.W.Frag} {mg : Str → Option Value} {base : Heap}
theorem calT {x : Str} {st : Stmt} {N ps : List Str} {k : Nat} {F : FT} (D : Def K mg x st) (S : FnScope N ps (defScope st))
    (hb : ∀ (kV doc pm : Value) (an : Option Addr) (cdv ct : Value) (us : List Value), us.length = ps.length → bindArgs (PySem.W.fnOf x x (defArgs st) (defBody st) (defScope st) .none kV doc pm an cdv ct) ⟨us, []⟩ = pure (ps.zip us))
    (hlen : ∀ ts n R RE, F ts n R RE → ts.length = ps.length) (W : XE → WS)
    (hbody : ∀ (f : Addr) (cdv : Value) (A : Around) (outer : List PySem.Env) (s : Shared) (H : Hp) (E : XK) [Xw] [XwI], Takes (cxT P w K mg base N x st f cdv A outer s H E) Xw.W → Owns (cxT P w K mg base N x st f cdv A outer s H E) → A.guards = some [] → Room k (A.deeper (PyProof.Rows.envOfC x (defScope st) s.heap.objs.size f cdv)) → QSs (cxT P w K mg base N x st f cdv A outer s H E) (defBody st) (W Xw.RE))
    (hspec : ∀ ts n R RE, F ts n R RE → W RE { nx := fun _ n => R .non n, rt := R } (startT N ts) n) : Cal P w K mg base (k + 1) x ps F := by
  obtain ⟨f, fd, G, hm⟩ := D
  exact ⟨f, fd, okT G S hlen W (hbody f) hspec, hm, G.kp, G.binds hb⟩
end
section
variable {X : Cx} {j k : Nat} {ps : List Str} {F : FT} {x : Str} {p pos : Pos} {e : Expr} {es : List Expr} {fa : WA}
theorem q_cal (tk : Takes X Xw.W) (hgd : X.A.guards = some []) (C : Cal X.prog X.w X.K X.mg X.base k x ps F) (hr : Room j X.A) (hj : k ≤ j) (hg : Gl X x) (ha : QA X (e :: es) fa) (hdb : (x == ("__debug__" : Str)) = false := by decide) (he : starEach (e :: es) X.env = (false, eval e X.env) :: starEach es X.env := by rfl) (hpl : (backTo pos (starEach es X.env)).any (·.1) = false := by rfl) :
    QE X (.Call (.Name x p) (e :: es) [] pos) (wCall Xw.RE F fa) := by
  obtain ⟨f, fd, G, hm, hk, hb⟩ := C
  exact q_call G hgd (hr.mono hj) hg hm hk hb tk ha hdb he hpl
theorem q_cal0 (tk : Takes X Xw.W) (hgd : X.A.guards = some []) (C : Cal X.prog X.w X.K X.mg X.base k x ps F) (hr : Room j X.A) (hj : k ≤ j) (hg : Gl X x) (hdb : (x == ("__debug__" : Str)) = false := by decide) :
    QE X (.Call (.Name x p) [] [] pos) (wCall Xw.RE F wNil) := by
  obtain ⟨f, fd, G, hm, hk, hb⟩ := C
  exact q_call0 G hgd (hr.mono hj) hg hm hk hb tk hdb
end
/-! ### global constants -/
section
variable {X : Cx} {x : Str} {p : Pos}
theorem q_globS {z : Str} (hg : Gl X x) (hm : ∃ t, X.mg x = some (.str z t)) (hdb : (x == ("__debug__" : Str)) = false := by decide) : QE X (.Name x p) (wC (.str z)) := by
  obtain ⟨t, hm⟩ := hm
  exact q_c (v := .str z) (pe_glob hg hm ⟨t, rfl⟩ hdb) fun _ _ => by simp only [Rep]
theorem q_globI {z : Int} (hg : Gl X x) (hm : ∃ t, X.mg x = some (.int z t)) (hdb : (x == ("__debug__" : Str)) = false := by decide) : QE X (.Name x p) (wC (.int z)) := by
  obtain ⟨t, hm⟩ := hm
  exact q_c (v := .int z) (pe_glob hg hm ⟨t, rfl⟩ hdb) fun _ _ => by simp only [Rep]
/-- a thing of the module's own top, as a tree -/
def Glob (K : PySem.W.Frag) (mg : Str → Option Value) (x : Str) (t : T) : Prop := ∃ a, mg x = some (.ref a) ∧ ∀ am H, Rep K am H t (.ref a)
theorem q_globT {t : T} (hg : Gl X x) (hm : Glob X.K X.mg x t) (hdb : (x == ("__debug__" : Str)) = false := by decide) : QE X (.Name x p) (wC t) := by
  obtain ⟨a, hm, r⟩ := hm
  exact q_c (v := .ref a) (pe_glob hg hm rfl hdb) r
theorem q_bty {n : String} (hg : Gl X x) (hm : X.mg x = none) (hv : bootBuiltins x = some (.type n)) (hn : x ≠ "__name__" := by decide) (hd : (x == ("__debug__" : Str)) = false := by decide) : QE X (.Name x p) (wC (.ty n)) :=
  q_c (v := .ty n) (pe_bltn hg hm hv rfl hn hd) fun _ _ => by simp only [Rep]
end
/-! ### names = a comprehension, of one's own or not -/
section
variable {X : Cx} {elt tg iter : Expr} {ifs : List Expr} {scope : Scope} {own : List (Str × Nat)} {pos spos py : Pos} {fi : WI} {g : Tgt} {t : WT} {fe : WE} {i : Nat} {y : Str}
theorem qs_ownLc (hc : X.calm = true) (hN : X.N.Nodup) (hy : X.N[i]? = some y) (hyl : X.env.scope.names.lookup y = some .local)
    (hsw : swapsWith (.ListComp elt [⟨tg, iter, ifs, 0⟩] scope pos) (some (.Name y py)) spos.line X.env = pure true) (hi : QI X tg iter fi) (ok : BlkOk X.N X.env.scope scope own) (hv : ∀ i ∈ g.ix, i ∈ own.map (·.2))
    (hg : ∀ (s : Shared) (H : Hp) (C : Addr) (cl : List (Str × Addr)) (fp : List Addr), PG (X.blk s H scope (compEnvC scope cl C X.env) fp) tg (g.g X.K)) (ht : ∀ (s : Shared) (H : Hp) (C : Addr) (cl : List (Str × Addr)) (fp : List Addr), QTs (X.blk s H scope (compEnvC scope cl C X.env) fp) ifs t)
    (he : ∀ (s : Shared) (H : Hp) (C : Addr) (cl : List (Str × Addr)) (fp : List Addr), @QE _ _ Xw.no (X.blk s H scope (compEnvC scope cl C X.env) fp) elt fe) (hs : ∀ x, foldedSetIterable iter X.env x = pure x := by intro _; rfl) :
    QS X (.Assign [.Name y py] (.ListComp elt [⟨tg, iter, ifs, 0⟩] scope pos) spos) (wsOwn i (wLc fi g t fe (own.map (·.2)))) :=
  PS.imp (ps_setLc hc hN hy hyl hsw hi ok hg ht he hs) fun D σ H ⟨am, H0, Hs0, ts, n, W, s, h, k, kx⟩ => lc_read hv (tF_at kx s h fun r n' hr p Hs' H' y b hb h0 hm ow hn => k.nx _ H' _ n' ⟨Hs', y, b.setOwn i hb h0 hm ow fun j t _ => hn j t⟩ hr)
theorem qs_setLc (hc : X.calm = true) (hN : X.N.Nodup) (hy : X.N[i]? = some y) (hyl : X.env.scope.names.lookup y = some .local)
    (hsw : swapsWith (.ListComp elt [⟨tg, iter, ifs, 0⟩] scope pos) (some (.Name y py)) spos.line X.env = pure true) (hi : QI X tg iter fi) (ok : BlkOk X.N X.env.scope scope own) (hv : ∀ i ∈ g.ix, i ∈ own.map (·.2))
    (hg : ∀ (s : Shared) (H : Hp) (C : Addr) (cl : List (Str × Addr)) (fp : List Addr), PG (X.blk s H scope (compEnvC scope cl C X.env) fp) tg (g.g X.K)) (ht : ∀ (s : Shared) (H : Hp) (C : Addr) (cl : List (Str × Addr)) (fp : List Addr), QTs (X.blk s H scope (compEnvC scope cl C X.env) fp) ifs t)
    (he : ∀ (s : Shared) (H : Hp) (C : Addr) (cl : List (Str × Addr)) (fp : List Addr), @QE _ _ Xw.no (X.blk s H scope (compEnvC scope cl C X.env) fp) elt fe) (hs : ∀ x, foldedSetIterable iter X.env x = pure x := by intro _; rfl) :
    QS X (.Assign [.Name y py] (.ListComp elt [⟨tg, iter, ifs, 0⟩] scope pos) spos) (wsSet i (wLc fi g t fe (own.map (·.2)))) :=
  PS.imp (ps_setLc hc hN hy hyl hsw hi ok hg ht he hs) fun D σ H ⟨am, H0, Hs0, ts, n, W, s, h, k, kx⟩ => lc_read hv (tF_at kx s h fun r n' hr p Hs' H' y b hb h0 hm ow hn => by
    obtain ⟨o, e, rp⟩ := ownAt_rep h0 ow
    have y2 : Ext am Hs0 H0 (upd Hs' p o) H' n' := y.share hb h0 hm e
    have b2 : RepB X.K am H0 (upd Hs' p o) H' σ ts := ⟨⟨b.re.len, fun j s e1 => by
      have q := b.re.at_ j s e1
      cases s with
      | no => trivial
      | tr u => obtain ⟨v, q1, q2⟩ := q; exact ⟨v, q1, Rep.mono (Same.upd_new h0) _ _ q2⟩
      | own u =>
        obtain ⟨l, q1, q2, q3, q4⟩ := q
        have ne : l ≠ p := fun z => hn j u e1 (by rw [q1, z])
        refine ⟨l, q1, by rw [upd_ne ne]; exact q2, q3, ?_⟩
        cases u with
        | lst xs => obtain ⟨vs, e, r⟩ := q4; exact ⟨vs, e, Reps.mono (Same.upd_new h0) _ _ r⟩
        | dct xs => obtain ⟨vs, e, r⟩ := q4; exact ⟨vs, e, RepK.mono (Same.upd_new h0) _ _ r⟩
        | obj C xs => obtain ⟨C, dx, vs, e0, e, r⟩ := q4; exact ⟨C, dx, vs, e0, e, RepF.mono (Same.upd_new h0) _ _ r⟩
        | _ => exact q4.elim, b.re.dis⟩, b.nw⟩
    exact k.nx _ H' _ n' ⟨_, y2, b2.set i rp⟩ hr)
end
/-! ### x op= e -/
def wsAug (i : Nat) (f : WE) (g : G2) : WS := fun W ts n => match ts[i]? with
  | some (.tr x) => f ts n fun y n1 => g x y fun z => W.nx (ts.set i (.tr z)) n1
  | _ => False
def IpOk (K : PySem.W.Frag) (ti : TIp) (g : G2) : Prop := R2Ok K ti g
section
variable {X : Cx} {e : Expr} {f : WE} {g : G2} {ti : TIp} {op : Operator} {i : Nat} {x : Str} {pos pos' : Pos}
theorem qs_aug (hN : X.N.Nodup) (hi : X.N[i]? = some x) (hx : Loc X.env.scope x) (he : QE X e f) (ho : PIp X op ti) (hg : R2Ok X.K ti g) (hf : X.fn x = true ∨ X.env.scope.names.lookup x = some .local := by first | exact .inl rfl | exact .inr rfl | assumption) :
    QS X (.AugAssign (.Name x pos') op e pos) (wsAug i f g) := PS.imp (ps_aug hN hi hx he ho hf) fun D σ H ⟨am, H0, Hs0, ts, n, W, s, h, k, kx⟩ => by
  unfold wsAug at h
  split at h
  · rename_i t e0
    have s0 := s
    obtain ⟨Hs, y, b⟩ := s
    obtain ⟨v, e1, e2⟩ := b.re.at_ i _ e0
    refine ⟨v, e1, tT_at kx s0 h fun r n' hr vr Hs' H' y' b' rv => ?_⟩
    obtain ⟨v', f1, f2⟩ := b'.re.at_ i _ e0
    rw [e1] at f1
    cases f1
    exact hg am Hs' H' n' t r v vr _ _ y'.spl f2 rv hr fun z hz vz Hs2 H2 y2 rz => k.nx _ H2 _ n' ⟨Hs2, y'.trans y2, (b'.ext y2).set i rz⟩ hz
  · exact h.elim
theorem pip_of {r : R2} (h : OpR X (inplaceOp op) r) : PIp X op r := fun pins s σ H x y u v Q I rx ry hr => h pins s σ H x y u v Q I rx ry hr
end
end TL
namespace TL
open PySem PySem.Spec PyProof.Rows L2
variable [Mach] [CN] [Xw]
/-! ### enumerate and zip over lists, tuples, texts -/
inductive Src where
  | l (a : Addr) | t (a : Addr) | s (x : Str)
def Src.v : Src → V
  | .l a => .ref a
  | .t a => .ref a
  | .s x => .str x
def Src.at_ (K : PySem.W.Frag) (H : Hp) (xs : List V) : Src → Prop
  | .l a => SqL K H a xs
  | .t a => SqT K H a xs
  | .s x => xs = x.cps.toList.map fun c => V.str ⟨#[c]⟩
def Src.ne (src : Src) (b : Addr) : Prop := match src with
  | .l a => a ≠ b
  | .t a => a ≠ b
  | .s _ => True
/-- the iterator's record -/
def Src.it (it : Addr) (tk : Tok) (i : Nat) (h : Heap) : Src → Prop
  | .l a => h.IsListIter it a i
  | .t a => h.IsTupleIter it a i
  | .s x => h.IsStrIter it (strIterType x) x tk i
theorem Src.inj {X : Cx} {pins : List (Addr × Obj)} {σ : L2.St} {H : Hp} {s : Shared} (I : Inv X pins σ H s) {src : Src} {xs ys : List V} (h : src.at_ X.K H xs) (h' : src.at_ X.K H ys) : xs = ys := by
  cases src with
  | l a => exact I.list_inj h h'
  | t a => exact I.tuple_inj h h'
  | s x => exact h.trans h'.symm
theorem src_cell {src : Src} {it : Addr} {tk : Tok} {i : Nat} {h : Heap} (q : src.it it tk i h) : ∃ o, h.get? it = some o ∧ ∀ v, o.data ≠ .cell v := by
  cases src with
  | l a => obtain ⟨o, e, _, d⟩ := q; exact ⟨o, e, fun v z => by rw [d] at z; cases z⟩
  | t a => obtain ⟨o, e, _, d⟩ := q; exact ⟨o, e, fun v z => by rw [d] at z; cases z⟩
  | s x => obtain ⟨o, e, _, d⟩ := q; exact ⟨o, e, fun v z => by rw [d] at z; cases z⟩
theorem src_keep {src : Src} {it : Addr} {tk : Tok} {i : Nat} {h h' : Heap} (q : src.it it tk i h) (k : ∀ o, h.get? it = some o → h'.get? it = some o) : src.it it tk i h' := by
  cases src with
  | l a => exact Heap.IsListIter.at q k
  | t a => exact Heap.IsTupleIter.at q k
  | s x => obtain ⟨o, e, c, d⟩ := q; exact ⟨o, k o e, c, d⟩
structure SrcD (X : Cx) (src : Src) (it : Addr) (tk : Tok) (xs : List V) (h : Heap) (i : Nat) (fp : List Addr) (P : Nat → Value → Prop) (St : Nat → Heap → Prop) : Prop where
  d : Draws X.prog X.w X.A.in1 it fp xs.length P St
  mem : it ∈ fp
  only : ∀ b, b ≠ it → src.ne b → b ∉ fp
  st : St i h
  val : ∀ j v, P j v → ∃ x, xs[j]? = some x ∧ RelV x v
  back : ∀ j h', St j h' → src.it it tk j h'
theorem Src.draws {X : Cx} {pins : List (Addr × Obj)} {σ : L2.St} {H : Hp} {s : Shared} (I : Inv X pins σ H s) (hc : X.calm = true) {src : Src} {xs : List V} (h : src.at_ X.K H xs) {it : Addr} {tk : Tok} {i : Nat} (hit : src.it it tk i s.heap) (hne : src.ne it) : ∃ fp P St, SrcD X src it tk xs s.heap i fp P St := by
  have hh : X.A.in1.handled = none := I.ok.hd hc
  cases src with
  | l a =>
    obtain ⟨its, rv, p, hz⟩ := I.list h
    have hl : xs.length = its.toArray.size := by rw [List.size_toArray]; exact rv.length
    refine ⟨_, _, (fun i h => h.IsListIter it a i ∧ h.IsList a its.toArray), ⟨by rw [hl]; exact Draws.list hh it a hne its.toArray, by simp, fun b h1 h2 => by simp; exact ⟨h1, fun z => h2 z.symm⟩, ⟨hit, p.isList⟩, fun j v q => ?_, fun j h' q => q.1⟩⟩
    have q' : its[j]? = some v := by simpa using q
    have : j < xs.length := by rw [rv.length]; exact (List.getElem?_eq_some_iff.mp q').1
    obtain ⟨u, e1, e2⟩ := rv.get (List.getElem?_eq_getElem this)
    rw [q'] at e1; cases e1
    exact ⟨_, List.getElem?_eq_getElem this, e2⟩
  | t a =>
    obtain ⟨its, rv, p, hz⟩ := I.tuple h
    have hl : xs.length = its.toArray.size := by rw [List.size_toArray]; exact rv.length
    refine ⟨_, _, (fun i h => h.IsTupleIter it a i ∧ h.IsTuple a its.toArray), ⟨by rw [hl]; exact Draws.tuple hh it a hne its.toArray, by simp, fun b h1 h2 => by simp; exact ⟨h1, fun z => h2 z.symm⟩, ⟨hit, p⟩, fun j v q => ?_, fun j h' q => q.1⟩⟩
    have q' : its[j]? = some v := by simpa using q
    have : j < xs.length := by rw [rv.length]; exact (List.getElem?_eq_some_iff.mp q').1
    obtain ⟨u, e1, e2⟩ := rv.get (List.getElem?_eq_getElem this)
    rw [q'] at e1; cases e1
    exact ⟨_, List.getElem?_eq_getElem this, e2⟩
  | s x =>
    have hl : xs.length = x.cps.size := by rw [h]; simp
    refine ⟨_, _, _, ⟨by rw [hl]; exact Draws.text hh it x tk, by simp, fun b h1 h2 => by simpa using h1, hit, fun j v q => ?_, fun j h' q => q⟩⟩
    obtain ⟨c, u, e, rfl⟩ := q
    exact ⟨.str ⟨#[c]⟩, by rw [h, List.getElem?_map, Array.getElem?_toList, e]; rfl, u, rfl⟩
def ItEn (K : PySem.W.Frag) (src : Src) : It :=
  ⟨fun i H => ∃ xs : List V, src.at_ K H xs ∧ i < xs.length, fun i H v H' => ∃ p x, v = .ref p ∧ H p = none ∧ H' = upd H p (.tup [.int (i : Nat), x]) ∧ ∀ xs, src.at_ K H xs → xs[i]? = some x, fun i H => ∃ xs : List V, src.at_ K H xs ∧ i = xs.length⟩
theorem turn_en {P : Program} {w : World} {K : PySem.W.Frag} {elts : List Expr} {kk : Nat} {tpos : Pos} {src : Src} {e it : Addr} {tk : Tok} (n1 : e ≠ it) (n2 : src.ne e) (n3 : src.ne it) :
    Turn P w K (.Tuple elts kk tpos) (ItEn K src) [e, it] e (fun i h => (∃ old, IsEnum h e it (0 + ((i : Nat) : Int)) old) ∧ src.it it tk i h) where
  mem := by simp
  obj := fun i h st b hb => by
    have e' : b = e ∨ b = it := by simpa using hb
    obtain ⟨⟨old, he⟩, hi⟩ := st
    rcases e' with z | z
    · rw [z]; exact ⟨_, he, fun v q => nomatch q⟩
    · rw [z]; exact src_cell hi
  keep := fun i h h' st k => let ⟨⟨old, he⟩, hi⟩ := st; ⟨⟨old, k e (by simp) _ he⟩, src_keep hi fun o q => k it (by simp) o q⟩
  item := by
    intro X hP hw hK hc i pins s σ H E I hf st hg
    subst hP hw hK
    obtain ⟨he, hit⟩ := st
    obtain ⟨xs, hx, hi⟩ := hg
    obtain ⟨fp, Pv, St, D⟩ := Src.draws I hc hx hit n3
    have lt_e : e < s.heap.objs.size := by obtain ⟨_, q⟩ := he; exact Heap.lt_size q
    have lt_i : it < s.heap.objs.size := by obtain ⟨o, q, _⟩ := src_cell hit; exact Heap.lt_size q
    refine (GoesN.enumFrom (elts := elts) (x1 := kk) (pos := tpos) 0 D.d e n1 (D.only e n1 n2) D.mem).goes i s _ E hi ⟨he, D.st⟩ fun v h' tk' hY st' hk _ => ?_
    obtain ⟨p, t, u, rfl, hp, hu, hT⟩ := hY
    obtain ⟨x, ex, rx⟩ := D.val i u hu
    have new : ObjOk X.prog X.w (upd H p (.tup [.int (i : Nat), x])) h' p (.tup [.int (i : Nat), x]) :=
      ⟨by show 2 ≤ sizeLine; decide, [.int (0 + (i : Int)) t, u], .cons ⟨t, by rw [Int.zero_add]⟩ (.cons rx .nil), hT⟩
    refine ⟨.ref p, _, I.turnedNew (ch := [e, it]) (t' := tk') hk hf hp new, rfl, ⟨p, x, rfl, I.hok.fresh hp, rfl, fun ys hy => by rw [Src.inj I hy hx]; exact ex⟩, ⟨st'.1, D.back _ _ st'.2⟩, fun b hb => ?_⟩
    have hb' : b < s.heap.objs.size := by
      have e' : b = e ∨ b = it := by simpa using hb
      rcases e' with z | z
      · rw [z]; exact lt_e
      · rw [z]; exact lt_i
    rw [upd_ne (Nat.ne_of_lt (Nat.lt_of_lt_of_le hb' hp))]
    exact (hf b hb).1
  done := by
    intro X hP hw hK hc i pins s σ H E I hf st hg
    subst hP hw hK
    obtain ⟨he, hit⟩ := st
    obtain ⟨xs, hx, hi⟩ := hg
    subst hi
    obtain ⟨fp, Pv, St, D⟩ := Src.draws I hc hx hit n3
    obtain ⟨f0, f1, f2, f3, f4, f5⟩ := hf it (by simp)
    refine thn ((GoesN.enumFrom (elts := elts) (x1 := kk) (pos := tpos) 0 D.d e n1 (D.only e n1 n2) D.mem).stops s (fun s' => Inv X pins σ H s') E ⟨he, D.st⟩ fun h' tk' hk _ => ?_) fun _ _ q => q
    exact I.turnedL (ch := [e, it]) (t' := tk') hk hf
  self := fun A i s Q E st h => let ⟨⟨_, he⟩, _⟩ := st; wpAny_pyIter_enum he h
theorem src_mono {K : PySem.W.Frag} {Hs H : Hp} {src : Src} {vs : List V} (s : Same Hs H) (h : src.at_ K Hs vs) : src.at_ K H vs := by
  cases src with
  | l a => exact same_sqL s h
  | t a => exact same_sqT s h
  | s x => exact h
def enumT (xs : List T) : List T := xs.mapIdx fun i x => T.tup [.int (i : Nat), x]
theorem walkT_en {K : PySem.W.Frag} {am : Option Addr} {Hs : Hp} {src : Src} {vs : List V} {xs : List T} (h : src.at_ K Hs vs) (r : Reps K am Hs xs vs) : WalkT K am Hs (ItEn K src) (enumT xs) where
  goes := fun i H hi s => ⟨vs, src_mono s h, by rw [← r.length]; simpa [enumT] using hi⟩
  stops := fun H s => ⟨vs, src_mono s h, by simp [enumT, r.length]⟩
  yields := fun i H x H' Hs1 n1 hi sp s y => by
    obtain ⟨p, v, rfl, hp, rfl, y⟩ := y
    obtain ⟨t, e, q⟩ := r.getV (y vs (src_mono (s.trans sp.sub) h))
    refine ⟨_, .tup [.int (i : Nat), t], Ext.lay sp hp _, ?_, rep_tup_new sp hp (Reps.mk_cons (by simp only [Rep]) (Reps.mk_cons (Rep.mono s _ _ q) (Reps.nil_iff.mpr rfl)))⟩
    unfold enumT
    rw [List.getElem?_mapIdx, e]; rfl
/-- where a value may be walked from -/
def noTup : T → Prop
  | .tup _ => False
  | _ => True
def SrcOf (K : PySem.W.Frag) (am : Option Addr) (Hs : Hp) (x : T) (v : V) (xs : List T) : Prop := ∃ src vs, v = Src.v src ∧ Src.at_ K Hs vs src ∧ Reps K am Hs xs vs ∧ (noTup x → ∀ a, src ≠ .t a)
theorem srcOf {K : PySem.W.Frag} {am : Option Addr} {Hs : Hp} {x : T} {v : V} {S : List T → Prop} (r : Rep K am Hs x v) (h : itemsT x S) : ∃ xs, S xs ∧ SrcOf K am Hs x v xs := by
  cases x with
  | lst xs => simp only [Rep] at r; obtain ⟨a, vs, rfl, h1, h2⟩ := r; exact ⟨xs, h, .l a, vs, rfl, SqL.of h1, h2, fun _ _ z => by cases z⟩
  | tup xs => simp only [Rep] at r; obtain ⟨a, vs, rfl, h1, h2⟩ := r; exact ⟨xs, h, .t a, vs, rfl, h1, h2, fun z => z.elim⟩
  | scr xs => simp only [Rep] at r; obtain ⟨a, rfl, h1⟩ := r; exact ⟨_, h, .l a, _, rfl, h1, reps_ints, fun _ _ z => by cases z⟩
  | str z =>
    simp only [Rep] at r
    refine ⟨_, h, .s z, _, r, rfl, ?_, fun _ _ z => by cases z⟩
    have e : signs z = (z.cps.toList.map fun c => (⟨#[c]⟩ : Str)).map T.str := by unfold signs; rw [List.map_map]; rfl
    have e2 : (z.cps.toList.map fun c => V.str ⟨#[c]⟩) = (z.cps.toList.map fun c => (⟨#[c]⟩ : Str)).map V.str := by rw [List.map_map]; rfl
    rw [e, e2]; exact reps_strs
  | _ => exact h.elim
def wiEnum (fs : WA) : WI := fun ts n S => fs ts n fun xs n1 => match xs with
  | [x] => noTup x ∧ itemsT x fun ys => S (enumT ys) n1
  | _ => False
section
variable {X : Cx} {e e2 : Expr} {fs : WA} {p pos tpos : Pos} {elts : List Expr} {kk : Nat}
theorem qi_enum (hg : Gl X "enumerate") (hm : X.mg "enumerate" = none) (ha : QA X [e] fs) (hs : starEach [e] X.env = [(false, eval e X.env)] := by rfl) : QI X (.Tuple elts kk tpos) (.Call (.Name "enumerate" p) [e] [] pos) (wiEnum fs) := by
  refine ⟨fun pins s σ H R I h => ?_⟩
  obtain ⟨am, Hs, ts, n, S, sp, re, h, k⟩ := h
  refine Call_ (ld_blt I hg hm boot_enumerate (PyProof.Rows.callWith_type1 (thn (ha.run pos pins s σ H (fun vs H1 => ∃ src ys, vs = [Src.v src] ∧ (∀ a, src ≠ .t a) ∧ src.at_ X.K H1 ys ∧ R (ItEn X.K src) H1) I ⟨am, Hs, ts, n, _, sp, re, h, fun xs n1 hx vs Hs1 H1 e1 rx => ?_⟩) fun us s1 ⟨vs, H1, I1, r1, src, ys, ev, nt, hsrc, q⟩ => ?_) hs rfl))
  · split at hx
    · rename_i x
      obtain ⟨v, rfl, r1⟩ := rx.one
      obtain ⟨ys, hy, src, ws, rfl, h1, h2, h3⟩ := srcOf r1 hx.2
      exact ⟨src, ws, rfl, h3 hx.1, src_mono e1.spl.sub h1, k _ n1 hy _ Hs1 H1 e1 (walkT_en h1 h2)⟩
    · exact hx.elim
  · subst ev
    cases r1 with
    | cons r rr =>
      cases rr
      have le : ∀ b, b ∈ [s1.heap.objs.size + 1, s1.heap.objs.size] → s1.heap.objs.size ≤ b := fun b hb => by
        have e' : b = s1.heap.objs.size + 1 ∨ b = s1.heap.objs.size := by simpa using hb
        rcases e' with z | z
        · rw [z]; exact Nat.le_add_right _ _
        · rw [z]; exact Nat.le_refl _
      cases src with
      | l a =>
        cases r
        obtain ⟨its, rv, pl, hz⟩ := I1.list hsrc
        have la : a < s1.heap.objs.size := pl.lt
        refine call_enumerate_list pl.isList fun h' he hit hsz hk => wpAny_pyIter_enum he ?_
        exact ⟨s1.heap.objs.size + 1, [s1.heap.objs.size + 1, s1.heap.objs.size], _, _, H1, rfl, I1.kept (t' := s1.toks) hk, turn_en (src := .l a) (tk := 0) (Nat.succ_ne_self _) (Nat.ne_of_lt (Nat.lt_succ_of_lt la)) (Nat.ne_of_lt la), ⟨⟨.none, he⟩, hit⟩, fun b hb => I1.fpOk (le b hb) (I1.hok.fresh (le b hb)), q⟩
      | t a => exact (nt a rfl).elim
      | s x =>
        obtain ⟨t, rfl⟩ := r
        refine call_enumerate_str fun h' he hit hsz hk => wpAny_pyIter_enum he ?_
        exact ⟨s1.heap.objs.size + 1, [s1.heap.objs.size + 1, s1.heap.objs.size], _, _, H1, rfl, I1.kept (t' := s1.toks) hk, turn_en (src := .s x) (tk := t) (Nat.succ_ne_self _) trivial trivial, ⟨⟨.none, he⟩, hit⟩, fun b hb => I1.fpOk (le b hb) (I1.hok.fresh (le b hb)), q⟩
end
end TL
namespace TL
open PySem L2
variable [Mach] [CN] [Xw]
/-! ### dicts -/
def keyT : T → Option Key
  | .int i => some (.inl i)
  | .str x => some (.inr x)
  | _ => none
theorem keyT_V {K : PySem.W.Frag} {am : Option Addr} {H : Hp} {t : T} {v : V} {k : Key} (e : keyT t = some k) (r : Rep K am H t v) : v = kV k := by
  cases t with
  | int i => simp only [Rep] at r; cases e; exact r
  | str i => simp only [Rep] at r; cases e; exact r
  | _ => cases e
def valT (kvs : List (Key × T)) (k : Key) : Option T := (kvs.find? fun kv => decide (kv.1 = k)).map (·.2)
def putT (kvs : List (Key × T)) (k : Key) (v : T) : List (Key × T) :=
  if (kvs.any fun kv => decide (kv.1 = k)) = true then kvs.map (fun kv => if kv.1 = k then (kv.1, v) else kv) else kvs ++ [(k, v)]
section
variable {K : PySem.W.Frag} {am : Option Addr} {H : Hp}
theorem RepK.nil_iff {vs : List (Key × V)} : RepK K am H [] vs ↔ vs = [] := by simp only [RepK]
theorem RepK.cons_iff {k : Key} {t : T} {ts : List (Key × T)} {vs : List (Key × V)} : RepK K am H ((k, t) :: ts) vs ↔ ∃ v r, vs = (k, v) :: r ∧ Rep K am H t v ∧ RepK K am H ts r := by simp only [RepK]
theorem RepK.mk_cons {k : Key} {t : T} {ts : List (Key × T)} {v : V} {vs : List (Key × V)} (h : Rep K am H t v) (r : RepK K am H ts vs) : RepK K am H ((k, t) :: ts) ((k, v) :: vs) := RepK.cons_iff.mpr ⟨v, vs, rfl, h, r⟩
theorem RepK.length : ∀ {ts : List (Key × T)} {vs : List (Key × V)}, RepK K am H ts vs → ts.length = vs.length
  | [], vs, h => by rw [RepK.nil_iff.mp h]; rfl
  | (k, t) :: ts, vs, h => by
    obtain ⟨v, r, rfl, _, h2⟩ := RepK.cons_iff.mp h
    simp [RepK.length h2]
theorem RepK.append : ∀ {ts us : List (Key × T)} {vs ws : List (Key × V)}, RepK K am H ts vs → RepK K am H us ws → RepK K am H (ts ++ us) (vs ++ ws)
  | [], us, vs, ws, h, h' => by rw [RepK.nil_iff.mp h]; exact h'
  | (k, t) :: ts, us, vs, ws, h, h' => by
    obtain ⟨v, r, rfl, h1, h2⟩ := RepK.cons_iff.mp h
    exact RepK.mk_cons h1 (RepK.append h2 h')
theorem RepK.val : ∀ {ts : List (Key × T)} {vs : List (Key × V)} (k : Key), RepK K am H ts vs → (∀ t, valT ts k = some t → ∃ v, valV vs k = some v ∧ Rep K am H t v) ∧ (valT ts k = none → valV vs k = none)
  | [], vs, k, h => by rw [RepK.nil_iff.mp h]; exact ⟨fun t e => (by cases e), fun _ => rfl⟩
  | (j, t) :: ts, vs, k, h => by
    obtain ⟨v, r, rfl, h1, h2⟩ := RepK.cons_iff.mp h
    obtain ⟨i1, i2⟩ := RepK.val k h2
    by_cases q : j = k
    · have e1 : valT ((j, t) :: ts) k = some t := by unfold valT; rw [List.find?_cons_of_pos (by simpa using q)]; rfl
      have e2 : valV ((j, v) :: r) k = some v := by unfold valV; rw [List.find?_cons_of_pos (by simpa using q)]; rfl
      rw [e1, e2]
      exact ⟨fun u z => by cases z; exact ⟨v, rfl, h1⟩, fun z => by cases z⟩
    · have e1 : valT ((j, t) :: ts) k = valT ts k := by unfold valT; rw [List.find?_cons_of_neg (by simpa using q)]
      have e2 : valV ((j, v) :: r) k = valV r k := by unfold valV; rw [List.find?_cons_of_neg (by simpa using q)]
      rw [e1, e2]
      exact ⟨i1, i2⟩
theorem RepK.anyK : ∀ {ts : List (Key × T)} {vs : List (Key × V)} (k : Key), RepK K am H ts vs → (ts.any fun kv => decide (kv.1 = k)) = vs.any fun kv => decide (kv.1 = k)
  | [], vs, k, h => by rw [RepK.nil_iff.mp h]; rfl
  | (j, t) :: ts, vs, k, h => by
    obtain ⟨v, r, rfl, h1, h2⟩ := RepK.cons_iff.mp h
    rw [List.any_cons, List.any_cons, RepK.anyK k h2]
theorem RepK.mapK : ∀ {ts : List (Key × T)} {vs : List (Key × V)} (k : Key) {t : T} {v : V}, Rep K am H t v → RepK K am H ts vs → RepK K am H (ts.map fun kv => if kv.1 = k then (kv.1, t) else kv) (vs.map fun kv => if kv.1 = k then (kv.1, v) else kv)
  | [], vs, k, t, v, r, h => by rw [RepK.nil_iff.mp h]; exact RepK.nil_iff.mpr rfl
  | (j, u) :: ts, vs, k, t, v, r, h => by
    obtain ⟨w, q, rfl, h1, h2⟩ := RepK.cons_iff.mp h
    rw [List.map_cons, List.map_cons]
    by_cases z : j = k
    · rw [if_pos z, if_pos z]; exact RepK.mk_cons r (RepK.mapK k r h2)
    · rw [if_neg z, if_neg z]; exact RepK.mk_cons h1 (RepK.mapK k r h2)
theorem RepK.put {ts : List (Key × T)} {vs : List (Key × V)} (k : Key) {t : T} {v : V} (r : Rep K am H t v) (h : RepK K am H ts vs) : RepK K am H (putT ts k t) (putK vs k v) := by
  unfold putT putK
  rw [h.anyK k]
  split
  · exact h.mapK k r
  · exact h.append (RepK.mk_cons r (RepK.nil_iff.mpr rfl))
end
def pDGet : G2 := fun x y R => match x, keyT y with
  | .dct kvs, some k => match valT kvs k with
    | some t => R t
    | none => False
  | _, _ => False
def pDIn (f : Bool → Bool) : G2 := fun y x R => match x, keyT y with
  | .dct kvs, some k => R (.bl (f (valT kvs k).isSome))
  | _, _ => False
section
variable {X : Cx} {a b : Expr} {fa fb : WE} {pos : Pos}
theorem q_dget (hu : X.A.units + 1 < cLine) (hs : NoSl b) (ha : QE X a fa) (hb : QE X b fb) : QE X (.Subscript a b pos) (w2 pDGet fa fb) :=
  PE.imp (pe_dget hu ha hb hs) fun σ H Q ⟨am, Hs, ts, n, R, sp, re, h, k⟩ => by
    refine ⟨am, Hs, ts, n, _, sp, re, h, fun x n1 hx vx Hs1 H1 e1 rx => ⟨am, Hs1, ts, n1, _, e1.spl, re.ext e1, hx, fun y n2 hy vy Hs2 H2 e2 ry => ?_⟩⟩
    unfold pDGet at hy
    split at hy
    · split at hy
      · rename_i _ _ kvs key ek _ t et
        have rx2 := Rep.mono e2.same _ _ rx
        simp only [Rep] at rx2
        obtain ⟨p, vs, rfl, h1, h2⟩ := rx2
        obtain ⟨v, hv, rv⟩ := (h2.val key).1 t et
        exact ⟨p, v, rfl, .inl ⟨vs, key, same_rd e2.spl.sub h1, keyT_V ek ry, hv.symm⟩, k t n2 hy v Hs2 H2 (e1.trans e2) rv⟩
      · exact hy.elim
    · exact hy.elim
theorem q_din (hu : X.A.units + 1 < cLine) (hm : behindInMarks .In b = false) (ha : QE X a fa) (hb : QE X b fb) : QE X (.Compare a [.In] [b] pos) (w2 (pDIn id) fa fb) :=
  PE.imp (pe_cmp (pc_din hu ha hb) hm) fun σ H Q ⟨am, Hs, ts, n, R, sp, re, h, k⟩ => by
    refine ⟨am, Hs, ts, n, _, sp, re, h, fun y n1 hx vy Hs1 H1 e1 ry => ⟨am, Hs1, ts, n1, _, e1.spl, re.ext e1, hx, fun x n2 hy vx Hs2 H2 e2 rx => ?_⟩⟩
    unfold pDIn at hy
    split at hy
    · rename_i kvs key ek
      simp only [Rep] at rx
      obtain ⟨p, vs, rfl, h1, h2⟩ := rx
      have ev : (valV vs key).isSome = (valT kvs key).isSome := by
        cases q : valT kvs key with
        | none => rw [(h2.val key).2 q]; rfl
        | some t => obtain ⟨v, hv, _⟩ := (h2.val key).1 t q; rw [hv]; rfl
      exact ⟨p, valV vs key, rfl, .inl ⟨vs, key, same_rd e2.spl.sub h1, keyT_V ek (Rep.mono e2.same _ _ ry), rfl⟩, k _ n2 hy _ Hs2 H2 (e1.trans e2) (by simp only [Rep]; rw [ev]; rfl)⟩
    · exact hy.elim
end
/-! a written dict, as one's own -/
abbrev WPs := Env → Nat → (List (T × T) → Nat → Prop) → Prop
def wpsNil : WPs := fun _ n R => R [] n
def wpsCons (fk fv : WE) (r : WPs) : WPs := fun ts n R => fk ts n fun k n1 => fv ts n1 fun v n2 => r ts n2 fun ps n3 => R ((k, v) :: ps) n3
/-- the pairs of trees and what they are -/
inductive RepP (K : PySem.W.Frag) (am : Option Addr) (H : Hp) : List (T × T) → List (V × V) → Prop where
  | nil : RepP K am H [] []
  | cons {k v : T} {ps : List (T × T)} {x y : V} {qs : List (V × V)} (h1 : Rep K am H k x) (h2 : Rep K am H v y) (r : RepP K am H ps qs) : RepP K am H ((k, v) :: ps) ((x, y) :: qs)
def QPs (X : Cx) (pos : Pos) (keys : List (Option Expr)) (values : List Expr) (fp : WPs) : Prop := ∃ trs, PPs X pos keys values trs ∧ ∀ (am : Option Addr) (Hs H : Hp) (σ : L2.St) (ts : Env) (n : Nat) (R : List (T × T) → Nat → Prop) (Q : List (V × V) → Hp → Prop), Spl am Hs H n → RepE X.K am Hs H σ ts → fp ts n R →
  (∀ ps n', R ps n' → ∀ qs Hs' H', Ext am Hs H Hs' H' n' → RepP X.K am Hs' ps qs → Q qs H') → tPairs trs σ H Q
theorem RepP.mono {K : PySem.W.Frag} {am : Option Addr} {H H' : Hp} (e : Same H H') {ps : List (T × T)} {qs : List (V × V)} (h : RepP K am H ps qs) : RepP K am H' ps qs := by
  induction h with
  | nil => exact .nil
  | cons h1 h2 r ih => exact .cons (Rep.mono e _ _ h1) (Rep.mono e _ _ h2) ih
section
variable {X : Cx} {k v : Expr} {keys : List (Option Expr)} {values : List Expr} {fk fv : WE} {fp : WPs} {pos : Pos}
theorem qps_nil : QPs X pos [] [] wpsNil := ⟨[], pps_nil, fun am Hs H σ ts n R Q sp re h k => k [] n h [] Hs H (Ext.refl sp) .nil⟩
theorem qps_cons (hk : QE X k fk) (hv : QE X v fv) (hr : QPs X pos keys values fp) : QPs X pos (some k :: keys) (v :: values) (wpsCons fk fv fp) := by
  obtain ⟨trs, h1, h2⟩ := hr
  refine ⟨(tT X.K fk, tT X.K fv) :: trs, pps_cons hk hv h1, fun am Hs H σ ts n R Q sp re h kk => ?_⟩
  refine ⟨am, Hs, ts, n, _, sp, re, h, fun x n1 hx vx Hs1 H1 e1 rx => ⟨am, Hs1, ts, n1, _, e1.spl, re.ext e1, hx, fun y n2 hy vy Hs2 H2 e2 ry => ?_⟩⟩
  exact h2 am Hs2 H2 σ ts n2 _ _ e2.spl (re.ext (e1.trans e2)) hy fun ps n3 hp qs Hs3 H3 e3 rp => kk _ n3 hp _ Hs3 H3 ((e1.trans e2).trans e3) (.cons (Rep.mono (e2.same.trans e3.same) _ _ rx) (Rep.mono e3.same _ _ ry) rp)
def kvsOf : List (T × T) → Option (List (Key × T))
  | [] => some []
  | (k, v) :: r => match keyT k, kvsOf r with
    | some j, some q => some ((j, v) :: q)
    | _, _ => none
theorem kvsOf_rep {K : PySem.W.Frag} {am : Option Addr} {H : Hp} : ∀ {ps : List (T × T)} {qs : List (V × V)} {kts : List (Key × T)}, RepP K am H ps qs → kvsOf ps = some kts → ∃ kvs, qs = kvs.map (fun kv => (kV kv.1, kv.2)) ∧ RepK K am H kts kvs
  | _, _, kts, .nil, e => by cases e; exact ⟨[], rfl, RepK.nil_iff.mpr rfl⟩
  | _, _, kts, .cons (k := k) (v := v) (ps := ps) h1 h2 r, e => by
    simp only [kvsOf] at e
    cases q : keyT k with
    | none => rw [q] at e; cases e
    | some j =>
      cases q2 : kvsOf ps with
      | none => rw [q, q2] at e; cases e
      | some rest =>
        rw [q, q2] at e
        cases e
        obtain ⟨kvs, e1, e2⟩ := kvsOf_rep r q2
        exact ⟨(j, _) :: kvs, by rw [e1, keyT_V q h1]; rfl, RepK.mk_cons h2 e2⟩
def mergeT (kvs more : List (Key × T)) : List (Key × T) := more.foldl (fun acc kv => putT acc kv.1 kv.2) kvs
theorem RepK.merge {K : PySem.W.Frag} {am : Option Addr} {H : Hp} : ∀ {more : List (Key × T)} {mv : List (Key × V)} {kts : List (Key × T)} {kvs : List (Key × V)}, RepK K am H more mv → RepK K am H kts kvs → RepK K am H (mergeT kts more) (mergeK kvs mv)
  | [], mv, kts, kvs, h, h' => by rw [RepK.nil_iff.mp h]; exact h'
  | (k, t) :: more, mv, kts, kvs, h, h' => by
    obtain ⟨v, r, rfl, h1, h2⟩ := RepK.cons_iff.mp h
    have q := RepK.merge h2 (h'.put k h1)
    exact q
def wDisp (fp : WPs) : WE := fun ts n R => fp ts n fun ps n1 => match kvsOf ps with
  | some kts => kts.length ≤ 15 ∧ R (.dct (mergeT [] kts)) n1
  | none => False
theorem qf_disp (h : QPs X pos keys values fp) (hall : keys.all (·.isSome) = true := by rfl) (hl : keys.length = values.length := by rfl) (h0 : keys ≠ [] := by intro z; cases z) (h15 : keys.length ≤ 15 := by decide) : QF X (.Dict keys values pos) (wDisp fp) := by
  obtain ⟨trs, h1, h2⟩ := h
  refine PE.imp (pe_disp h1 hall hl h0 h15) fun σ H Q ⟨am, Hs, ts, n, R, sp, re, h, k⟩ p hp => ?_
  have x1 := Ext.lay1 sp hp (HO.dK [])
  have hs0 := sp.sub.free hp
  have hm0 : ¬ MC am (upd H p (.dK [])) p := mc_new sp hp
  refine h2 am Hs _ σ ts n _ _ x1.spl (re.ext x1) h fun ps n' hps qs Hs' H' e rp => ?_
  have hd : H' p = some (.dK []) := e.keep.at_ p _ upd_same hm0
  have hs1 : Hs' p = none := by
    cases q : Hs' p with
    | none => rfl
    | some o => exact (e.new p o q).elim (fun z => by rw [hs0] at z; cases z) fun z => by rw [upd_same] at z; cases z
  have hm1 : ¬ MC am H' p := fun z => (e.keep.mc p z).elim hm0 fun q => by rw [upd_same] at q; cases q
  split at hps
  · rename_i kts ek
    obtain ⟨kvs, eq, rk⟩ := kvsOf_rep rp ek
    have x2 := (x1.trans e).mut (o := .dK (mergeK [] kvs)) hp hs1 hm1
    exact ⟨hd, kvs, eq, by rw [← rk.length]; exact hps.1, k _ n' hps.2 p Hs' _ x2 hp hs1 (fun z => hm1 ((MC.mut e.spl hm1).mp z)) ⟨_, upd_same, RepK.merge rk (RepK.nil_iff.mpr rfl)⟩⟩
  · exact hps.elim
end
/-! d[k] = v as a target, d one's own -/
def wgStD (i : Nat) (fk : WE) : WG := fun r ts n R => match ts[i]? with
  | some (.own (.dct kvs)) => fk ts n fun k n1 => match keyT k with
    | some key => kvs.length < sizeLine ∧ R (ts.set i (.own (.dct (putT kvs key r)))) n1
    | none => False
  | _ => False
section
variable {X : Cx} {x : Str} {ek : Expr} {fk : WE} {p pos : Pos}
theorem qg_stD (i : Nat) (hu : X.A.units + 1 < cLine) (hv : PE X (.Name x p) (tVar i)) (hk : @QE _ _ Xw.no X ek fk)
    (ha : ∀ v, assign (.Subscript (.Name x p) ek pos) X.env v = (do
      let ov ← holding [v] (eval (.Name x p) X.env)
      let iv ← holding [v, ov] (eval ek X.env)
      standAt pos
      holding [v, ov, iv] (setItem ov iv v)
      release [v, ov, iv] []) := by intro _; rfl) : QG X (.Subscript (.Name x p) ek pos) (wgStD i fk) :=
  PG.imp (pg_sub hv hk (set_dict hu) ha) fun v σ H Q ⟨am, H0, Hs0, Hs, ts, n, r, R, y, b, rv, h, kk⟩ => by
    unfold wgStD at h
    split at h
    rotate_left
    · exact h.elim
    rename_i kvs e0
    obtain ⟨l, e1, e2, e3, kv0, e4, e5⟩ := b.re.at_ i _ e0
    refine ⟨.ref l, e1, am, Hs, ts, n, _, y.spl, b.re.no, h, fun k n1 hk' vk Hs1 H1 y1 rk => ?_⟩
    have b1 := b.ext y1
    obtain ⟨l', f1, f2, f3, kv1, f4, f5⟩ := b1.re.at_ i _ e0
    rw [e1] at f1
    cases f1
    cases ekk : keyT k with
    | none => rw [ekk] at hk'; exact hk'.elim
    | some key =>
      rw [ekk] at hk'
      have yy := y.trans y1
      refine ⟨l, _, rfl, .inl ⟨kv1, key, f4, keyT_V ekk rk, by rw [← f5.length]; exact hk'.1, rfl⟩, kk _ n1 hk'.2 σ Hs1 _ (yy.mut (b.nw i _ l e0 e1) f2 f3 _) y1.same ?_⟩
      exact b1.updOwn (t' := .dct (putT kvs key r)) y1.spl e0 e1 ⟨_, upd_same, f5.put key (Rep.mono y1.same _ _ rv)⟩
end
end TL
namespace TL
open PySem L2
/-! ### the draw machine of the first twenty laws -/
def kC : Key := Sum.inr "cells"
def kL : Key := Sum.inr "left"
def kA : Key := Sum.inr "at"
theorem kCL : kC ≠ kL := by decide +kernel
theorem kCA : kC ≠ kA := by decide +kernel
theorem kLA : kL ≠ kA := by decide +kernel
def machD (lc ll : Addr) (k : Int) : List (Key × V) := [(kC, .ref lc), (kL, .ref ll), (kA, .int k)]
theorem machD_C (lc ll : Addr) (k : Int) : valV (machD lc ll k) kC = some (.ref lc) := by
  unfold valV machD
  rw [List.find?_cons_of_pos (by simp)]; rfl
theorem machD_L (lc ll : Addr) (k : Int) : valV (machD lc ll k) kL = some (.ref ll) := by
  unfold valV machD
  rw [List.find?_cons_of_neg (by simpa using kCL), List.find?_cons_of_pos (by simp)]; rfl
theorem machD_A (lc ll : Addr) (k : Int) : valV (machD lc ll k) kA = some (.int k) := by
  unfold valV machD
  rw [List.find?_cons_of_neg (by simpa using kCA), List.find?_cons_of_neg (by simpa using kLA), List.find?_cons_of_pos (by simp)]; rfl
theorem machD_putL (lc ll l' : Addr) (k : Int) : putK (machD lc ll k) kL (.ref l') = machD lc l' k := by
  unfold putK machD
  rw [if_pos (by simp)]
  simp only [List.map_cons, List.map_nil]
  rw [if_neg kCL, if_neg (Ne.symm kLA)]
  simp
theorem machD_putA (lc ll : Addr) (k k' : Int) : putK (machD lc ll k) kA (.int k') = machD lc ll k' := by
  unfold putK machD
  rw [if_pos (by simp)]
  simp only [List.map_cons, List.map_nil]
  rw [if_neg kCA, if_neg kLA]
  simp
/-- the most draws -/
def FUEL : Nat := 1125899906842624
structure MS (H : Hp) (m lc ll : Addr) (cs ls : List Int) (k : Int) (n : Nat) : Prop where
  d : H m = some (.dK (machD lc ll k))
  c : H lc = some (.lst (cs.map V.int))
  l : H ll = some (.lst (ls.map V.int))
  ne : lc ≠ ll
  k0 : 0 ≤ k
  kn : k + n ≤ FUEL
def footA (H : Hp) (m a : Addr) : Prop := a = m ∨ ∃ kvs, H m = some (.dK kvs) ∧ (valV kvs kC = some (.ref a) ∨ valV kvs kL = some (.ref a))
def okA (H : Hp) (m : Addr) (n : Nat) : Prop := ∃ lc ll cs ls k, MS H m lc ll cs ls k n
theorem MS.foot {H : Hp} {m lc ll : Addr} {cs ls : List Int} {k : Int} {n : Nat} (h : MS H m lc ll cs ls k n) (a : Addr) : footA H m a ↔ a = m ∨ a = lc ∨ a = ll := by
  unfold footA
  rw [h.d]
  constructor
  · rintro (z | ⟨kvs, e, z⟩)
    · exact .inl z
    · cases e
      rw [machD_C, machD_L] at z
      rcases z with z | z
      · cases z; exact .inr (.inl rfl)
      · cases z; exact .inr (.inr rfl)
  · rintro (z | z | z)
    · exact .inl z
    · exact .inr ⟨_, rfl, .inl (by rw [machD_C, z])⟩
    · exact .inr ⟨_, rfl, .inr (by rw [machD_L, z])⟩
theorem MS.nml {H : Hp} {m lc ll : Addr} {cs ls : List Int} {k : Int} {n : Nat} (h : MS H m lc ll cs ls k n) : m ≠ ll := ne_of h.d h.l (by intro z; cases z)
theorem MS.nmc {H : Hp} {m lc ll : Addr} {cs ls : List Int} {k : Int} {n : Nat} (h : MS H m lc ll cs ls k n) : m ≠ lc := ne_of h.d h.c (by intro z; cases z)
@[reducible] def machA : Mach where
  foot := footA
  ok := okA
  self := fun _ => .inl rfl
  dom := fun {H m n a} ⟨lc, ll, cs, ls, k, h⟩ q => by
    rcases (h.foot a).mp q with z | z | z
    · rw [z]; exact ⟨_, h.d⟩
    · rw [z]; exact ⟨_, h.c⟩
    · rw [z]; exact ⟨_, h.l⟩
  frame := fun {H H' m n} ⟨lc, ll, cs, ls, k, h⟩ q => by
    have h' : MS H' m lc ll cs ls k n := ⟨by rw [q m ((h.foot m).mpr (.inl rfl))]; exact h.d, by rw [q lc ((h.foot lc).mpr (.inr (.inl rfl)))]; exact h.c, by rw [q ll ((h.foot ll).mpr (.inr (.inr rfl)))]; exact h.l, h.ne, h.k0, h.kn⟩
    exact ⟨⟨lc, ll, cs, ls, k, h'⟩, fun a => by rw [h'.foot, h.foot]⟩
local instance : Mach := machA
variable [CN]
local instance : Xw := Xw.no
section
variable {Hs H : Hp} {m lc ll l' : Addr} {cs ls ls' : List Int} {k k' : Int} {n n' : Nat}
theorem mc_iff (h : MS H m lc ll cs ls k n) (a : Addr) : MC (some m) H a ↔ a = m ∨ a = lc ∨ a = ll := by
  constructor
  · rintro ⟨m', e, q⟩
    cases e
    exact (h.foot a).mp q
  · intro q
    exact ⟨m, rfl, (h.foot a).mpr q⟩
/-- from one state of the machine to another -/
theorem Ext.mach {H' : Hp} {lc2 ll2 : Addr} {cs2 ls2 : List Int} (s : Spl (some m) Hs H n) (h : MS H m lc ll cs ls k n) (h' : MS H' m lc2 ll2 cs2 ls2 k' n') (ec : lc2 = lc ∨ H lc2 = none) (el : ll2 = ll ∨ H ll2 = none) (hk : ∀ a, a ≠ m → a ≠ lc → a ≠ ll → a ≠ lc2 → a ≠ ll2 → H' a = H a) (hd : ∀ a, H' a = none → H a = none) : Ext (some m) Hs H Hs H' n' := by
  have off : ∀ a, (a = m ∨ a = lc ∨ a = ll) → Hs a = none := fun a q => (s.mok m rfl).off a ((h.foot a).mpr q)
  have off2 : ∀ a, (a = m ∨ a = lc2 ∨ a = ll2) → Hs a = none := fun a q => by
    rcases q with z | z | z
    · exact off a (.inl z)
    · rcases ec with e | e
      · exact off a (.inr (.inl (z.trans e)))
      · rw [z]; exact s.sub.free e
    · rcases el with e | e
      · exact off a (.inr (.inr (z.trans e)))
      · rw [z]; exact s.sub.free e
  have same : ∀ a o, H a = some o → a ≠ m → a ≠ lc → a ≠ ll → H' a = some o := fun a o e n1 n2 n3 => by
    rw [hk a n1 n2 n3 ?_ ?_]
    · exact e
    · rintro rfl
      rcases ec with z | z
      · exact n2 z
      · rw [z] at e; cases e
    · rintro rfl
      rcases el with z | z
      · exact n3 z
      · rw [z] at e; cases e
  refine ⟨⟨fun a o e => ?_, fun m' em => ?_⟩, Same.refl _, ⟨fun a o e nm => ?_, fun a q => ?_, fun a e => ?_⟩, fun a o e => .inl e⟩
  · have ne : ∀ b, Hs b = none → a ≠ b := fun b hb z => by rw [z, hb] at e; cases e
    exact same a o (s.sub a o e) (ne m (off m (.inl rfl))) (ne lc (off lc (.inr (.inl rfl)))) (ne ll (off ll (.inr (.inr rfl))))
  · cases em
    exact ⟨⟨lc2, ll2, cs2, ls2, k', h'⟩, fun a q => off2 a ((h'.foot a).mp q)⟩
  · have q := fun z => nm ((mc_iff h a).mpr z)
    exact same a o e (fun z => q (.inl z)) (fun z => q (.inr (.inl z))) fun z => q (.inr (.inr z))
  · rcases (mc_iff h' a).mp q with z | z | z
    · exact .inl ((mc_iff h a).mpr (.inl z))
    · rcases ec with e | e
      · exact .inl ((mc_iff h a).mpr (.inr (.inl (z.trans e))))
      · rw [z]; exact .inr e
    · rcases el with e | e
      · exact .inl ((mc_iff h a).mpr (.inr (.inr (z.trans e))))
      · rw [z]; exact .inr e
  · exact hd a e
end
/-! _law_next -/
def F_next : FT := fun ts n R _ => ∃ many : Int, ts = [.mach, .int many] ∧ 0 < many ∧ many < 1073741824 ∧ 1 ≤ n ∧ ∀ r : Int, 0 ≤ r → r < many → R (.int r) (n - 1)
def N_next : List Str := ["_law_m", "_law_many", "_law_rest", "_law_k", "_law_cell", "_law_mixed"]
theorem dp_ints {K : PySem.W.Frag} {H : Hp} {a : Addr} {ns : List Int} (h : H a = some (.lst (ns.map V.int))) : Dp K H (.ref a) (.list (ns.map PyData.int)) := by
  refine .lst (SqL.of h) ?_
  clear h
  induction ns with
  | nil => exact .nil
  | cons n r ih => exact .cons (.int n) ih
theorem shaped_ints (ns : List Int) : SeqAt.shaped (.list (ns.map PyData.int)) = true := by
  have h1 : ∀ ns : List Int, PyData.canLayAll0 (ns.map PyData.int) = true := fun ns => by
    induction ns with
    | nil => rfl
    | cons n r ih => simp only [List.map_cons, PyData.canLayAll0, PyData.canLay0, ih, Bool.and_self]
  have h2 : ∀ ns : List Int, PyData.depthAll (ns.map PyData.int) = 0 := fun ns => by
    induction ns with
    | nil => rfl
    | cons n r ih => simp only [List.map_cons, PyData.depthAll, PyData.depth, ih]; rfl
  unfold SeqAt.shaped
  rw [Bool.and_eq_true]
  exact ⟨by simp only [PyData.canLay0]; exact h1 ns, decide_eq_true (by simp only [PyData.depth, h2]; decide)⟩
theorem eqv_ints (ns : List Int) : PyData.eqv (.list (ns.map PyData.int)) (.list []) = ns.isEmpty := by
  cases ns with
  | nil => simp only [PyData.eqv, List.map_nil, PyData.eqvAll, List.isEmpty_nil]
  | cons n r => simp only [PyData.eqv, List.map_cons, PyData.eqvAll, List.isEmpty_cons]
abbrev rInt1 : List V → Hp → VK → Prop := fun xs H Q => (∃ i, xs = [V.int i] ∧ Q (.int i) H) ∨ ∃ k, xs = [V.bl k] ∧ Q (.int (if k then 1 else 0)) H
abbrev rLenX (K : PySem.W.Frag) : List V → Hp → VK → Prop := fun xs H Q => ∃ x n, xs = [x] ∧ LenV K x H n ∧ Q (.int (n : Nat)) H
abbrev dL : TE := tDGet (tVar 0) (tC (.str "left"))
abbrev dA : TE := tDGet (tVar 0) (tC (.str "at"))
abbrev dC : TE := tDGet (tVar 0) (tC (.str "cells"))
abbrev tInt (t : TE) : TE := tCB rInt1 (tCons t tNil)
abbrev tAddI : TE → TE → TE := tOp (rI0 fun i j => .int (i + j))
abbrev tMulI : TE → TE → TE := tOp (rI CMul fun i j => .int (i * j))
abbrev tModI : TE → TE → TE := tOp (rI (fun _ j => 0 < j) fun i j => .int (i % j))
abbrev tDivI : TE → TE → TE := tOp (rI CDiv fun i j => .int (i / j))
def t_tail3 (K : PySem.W.Frag) : TS :=
  (tSeq (tAsg (tIf (tTest (tOp (rNeD K) dC (tLst tNil))) (tOp (rIxL K) dC (tModI (tInt (tVar 3)) (tCB (rLenX K) (tCons dC tNil)))) (tC (.int 5))) (gName 4))
  (tSeq (tAsg (tMulI (tInt (tAddI (tAddI (tModI (tInt (tVar 4)) (tC (.int 2147483629))) (tMulI (tC (.int 7919)) (tVar 3))) (tMulI (tMulI (tC (.int 17)) (tVar 3)) (tVar 3)))) (tC (.int 48271))) (gName 5))
  (tSeq (tAsg (tMulI (tInt (tAddI (tModI (tInt (tVar 5)) (tC (.int 2147483647))) (tMulI (tC (.int 104729)) (tVar 3)))) (tC (.int 69621))) (gName 5))
  (tRet (tModI (tInt (tDivI (tModI (tInt (tVar 5)) (tC (.int 2147483587))) (tC (.int 13)))) (tVar 1))))))
def t_tail (K : PySem.W.Frag) : TS :=
  (tSeq (tIfS (tTest (tOp (rNeD K) dL (tLst tNil))) (tSeq (tAsg (tInt (tOp (rIxL K) dL (tC (.int 0)))) (gName 2)) (tSeq (tAsg (tDivI (tVar 2) (tVar 1)) (gSub dL (tC (.int 0)) rSetL)) (tRet (tModI (tVar 2) (tVar 1))))) tNext)
  (tSeq (tAsg (tAddI dA (tC (.int 1))) (gName 3))
  (tSeq (sDPut (tVar 0) (tC (.str "at")) (tVar 3)) (t_tail3 K))))
def t_next (K : PySem.W.Frag) : TS :=
  tSeq (tWhile (tAnd (tTest (tOp (rNeD K) dL (tLst tNil))) (tTest (tOp rEq (tOp (rIxL K) dL (tC (.int 0))) (tC (.int 0))))) (sDPut (tVar 0) (tC (.str "left")) (tSl (rSlL K) dL (tPart (tC (.int 1))) tNoPart)))
  (t_tail K)
section
variable {K : PySem.W.Frag} {Hs H0 : Hp} {n : Nat} {many : Int} {m : Addr}
theorem getL {H : Hp} {lc ll : Addr} {cs ls : List Int} {k : Int} {n : Nat} (h : MS H m lc ll cs ls k n) : DGet H m (.str "left") (some (.ref ll)) := .inl ⟨_, kL, .inl h.d, rfl, (machD_L lc ll k).symm⟩
theorem getC {H : Hp} {lc ll : Addr} {cs ls : List Int} {k : Int} {n : Nat} (h : MS H m lc ll cs ls k n) : DGet H m (.str "cells") (some (.ref lc)) := .inl ⟨_, kC, .inl h.d, rfl, (machD_C lc ll k).symm⟩
theorem getA {H : Hp} {lc ll : Addr} {cs ls : List Int} {k : Int} {n : Nat} (h : MS H m lc ll cs ls k n) : DGet H m (.str "at") (some (.int k)) := .inl ⟨_, kA, .inl h.d, rfl, (machD_A lc ll k).symm⟩
/-- a test against []: an empty list is made, and is free -/
theorem MS.lay {H : Hp} {lc ll p : Addr} {cs ls : List Int} {k : Int} {n : Nat} {o : HO} (h : MS H m lc ll cs ls k n) (hp : H p = none) : MS (upd H p o) m lc ll cs ls k n :=
  ⟨by rw [upd_ne (ne_of_none h.d hp)]; exact h.d, by rw [upd_ne (ne_of_none h.c hp)]; exact h.c, by rw [upd_ne (ne_of_none h.l hp)]; exact h.l, h.ne, h.k0, h.kn⟩
def St0 (m : Addr) (many : Int) : L2.St := [some (.ref m), some (.int many), none, none, none, none]
theorem neNil {H : Hp} {a : Addr} {ns : List Int} {te : TE} {σ : L2.St} {Q : Bool → Hp → Prop} (ht : ∀ Q', Q' (.ref a) H → te σ H Q') (h : H a = some (.lst (ns.map V.int))) (k : ∀ p, H p = none → Q (!ns.isEmpty) (upd H p (.lst []))) : tTest (tOp (rNeD K) te (tLst tNil)) σ H Q := by
  refine ht _ ⟨by decide, fun p hp => ?_⟩
  refine ⟨_, .list [], dp_ints (ns := ns) (by rw [upd_ne (ne_of_none h hp)]; exact h), .lst (SqL.of upd_same) .nil, shaped_ints ns, rfl, _, rfl, ?_⟩
  rw [eqv_ints]; exact k p hp
theorem read_tail3 {Q : VK} {H : Hp} {k : Int} {o : Option V} {lc ll : Addr} {cs ls : List Int} (x : Ext (some m) Hs H0 Hs H (n - 1)) (h : MS H m lc ll cs ls k (n - 1)) (hm0 : 0 < many) (hk : ∀ (r : Int) H', 0 ≤ r → r < many → Ext (some m) Hs H0 Hs H' (n - 1) → Q (.int r) H') :
    t_tail3 K { nx := fun _ H' => Q .non H', rt := Q } [some (.ref m), some (.int many), o, some (.int k), none, none] H := by
  have hmod : ∀ x : Int, 0 ≤ x % many ∧ x % many < many := fun x => ⟨Int.emod_nonneg x (by omega), Int.emod_lt_of_pos x hm0⟩
  have hkb : k ≤ 1125899906842624 := by have := h.kn; unfold FUEL at this; omega
  have hk0 := h.k0
  have fin : ∀ (c : Int) (H' : Hp), Ext (some m) Hs H0 Hs H' (n - 1) → (tSeq (tAsg (tMulI (tInt (tAddI (tAddI (tModI (tInt (tVar 4)) (tC (.int 2147483629))) (tMulI (tC (.int 7919)) (tVar 3))) (tMulI (tMulI (tC (.int 17)) (tVar 3)) (tVar 3)))) (tC (.int 48271))) (gName 5))
  (tSeq (tAsg (tMulI (tInt (tAddI (tModI (tInt (tVar 5)) (tC (.int 2147483647))) (tMulI (tC (.int 104729)) (tVar 3)))) (tC (.int 69621))) (gName 5))
  (tRet (tModI (tInt (tDivI (tModI (tInt (tVar 5)) (tC (.int 2147483587))) (tC (.int 13)))) (tVar 1))))) { nx := fun _ H' => Q .non H', rt := Q } [some (.ref m), some (.int many), o, some (.int k), some (.int c), none] H' := fun c H' x' => by
    refine ⟨_, rfl, .inl ⟨_, rfl, _, _, rfl, rfl, (by show (0 : Int) < 2147483629; decide), _, rfl, _, _, rfl, rfl, .inl ⟨by decide, by decide⟩, _, _, rfl, rfl, _, rfl, _, _, rfl, rfl, .inl ⟨by decide, by decide⟩, _, rfl, _, _, rfl, rfl, .inr ⟨by omega, by omega⟩, _, _, rfl, rfl, .inl ⟨_, rfl, _, _, rfl, rfl, .inr ⟨by decide, by decide⟩, ?_⟩⟩⟩
    refine ⟨_, rfl, .inl ⟨_, rfl, _, _, rfl, rfl, (by show (0 : Int) < 2147483647; decide), _, rfl, _, _, rfl, rfl, .inl ⟨by decide, by decide⟩, _, _, rfl, rfl, .inl ⟨_, rfl, _, _, rfl, rfl, .inr ⟨by decide, by decide⟩, ?_⟩⟩⟩
    refine ⟨_, rfl, .inl ⟨_, rfl, _, _, rfl, rfl, (by show (0 : Int) < 2147483587; decide), _, _, rfl, rfl, ⟨by decide, by decide⟩, .inl ⟨_, rfl, _, rfl, _, _, rfl, rfl, hm0, ?_⟩⟩⟩
    exact hk _ H' (hmod _).1 (hmod _).2 x'
  refine neNil (fun Q' q => ⟨_, rfl, m, _, rfl, getC h, q⟩) h.c fun p hp => ?_
  have h1 := h.lay (o := .lst []) hp
  have x1 := x.trans (Ext.lay1 x.spl hp (.lst []))
  cases cs with
  | nil => exact iteF (fin 5 _ x1)
  | cons c0 cr =>
    refine iteT ?_
    refine ⟨_, rfl, m, _, rfl, getC h1, _, rfl, .inl ⟨_, rfl, _, rfl, m, _, rfl, getC h1, _, _, rfl, .inl ⟨_, SqL.of h1.c, rfl⟩, _, _, rfl, rfl, ?_, ?_⟩⟩
    · simp only [List.length_map, List.length_cons]; omega
    · have hl : (0 : Int) < (((c0 :: cr).map V.int).length : Nat) := by simp only [List.length_map, List.length_cons]; omega
      generalize hq : (((c0 :: cr).map V.int).length : Nat) = L at hl
      have b1 := Int.emod_nonneg k (show (L : Int) ≠ 0 by omega)
      have b2 := Int.emod_lt_of_pos k hl
      have hlt : (k % (L : Int)).toNat < (c0 :: cr).length := by
        have : L = (c0 :: cr).length := by rw [← hq, List.length_map]
        omega
      refine ⟨lc, _, _, .int ((c0 :: cr)[(k % (L : Int)).toNat]), rfl, rfl, SqL.of h1.c, ?_, fin _ _ x1⟩
      unfold L2.atI ixN
      rw [hq, if_pos b1, if_pos b2]
      show ((c0 :: cr).map V.int)[(k % (L : Int)).toNat]? = _
      rw [List.getElem?_map, List.getElem?_eq_getElem hlt]; rfl
theorem read_tail {Q : VK} {H : Hp} {lc ll : Addr} {cs ls : List Int} {k : Int} (x : Ext (some m) Hs H0 Hs H n) (h : MS H m lc ll cs ls k n) (hm0 : 0 < many) (hm1 : many < 1073741824) (hn : 1 ≤ n) (hk : ∀ (r : Int) H', 0 ≤ r → r < many → Ext (some m) Hs H0 Hs H' (n - 1) → Q (.int r) H') :
    t_tail K { nx := fun _ H' => Q .non H', rt := Q } (St0 m many) H := by
  have hmod : ∀ x : Int, 0 ≤ x % many ∧ x % many < many := fun x => ⟨Int.emod_nonneg x (by omega), Int.emod_lt_of_pos x hm0⟩
  refine neNil (fun Q' q => ⟨_, rfl, m, _, rfl, getL h, q⟩) h.l fun p hp => ?_
  have h1 := h.lay (o := .lst []) hp
  have x1 := x.trans (Ext.lay1 x.spl hp (.lst []))
  generalize upd H p (.lst []) = H1 at h1 x1
  cases ls with
  | nil =>
    refine iteF ?_
    refine ⟨_, rfl, m, _, rfl, getA h1, _, _, rfl, rfl, ?_⟩
    refine ⟨_, rfl, _, rfl, m, _, rfl, .inl ⟨_, kA, h1.d, rfl, by show 3 < sizeLine; decide, rfl⟩, ?_⟩
    have h2 : MS (upd H1 m (.dK (machD lc ll (k + 1)))) m lc ll cs [] (k + 1) (n - 1) := ⟨upd_same, by rw [upd_ne (Ne.symm h1.nmc)]; exact h1.c, by rw [upd_ne (Ne.symm h1.nml)]; exact h1.l, h1.ne, by have := h1.k0; omega, by have := h1.kn; omega⟩
    have x2 := Ext.mach x1.spl h1 h2 (.inl rfl) (.inl rfl) (fun a n1 _ _ _ _ => upd_ne n1) (fun a e => by
      by_cases z : a = m
      · rw [z, upd_same] at e; cases e
      · rw [upd_ne z] at e; exact e)
    rw [machD_putA]
    exact read_tail3 (x1.trans x2) h2 hm0 hk
  | cons y r =>
    refine iteT ?_
    have hz : L2.atI ((y :: r).map V.int) 0 = some (.int y) := by
      unfold L2.atI ixN
      rw [if_pos (by decide), if_pos (by simp only [List.length_map, List.length_cons]; omega)]; rfl
    refine ⟨_, rfl, m, _, rfl, getL h1, ll, _, _, _, rfl, rfl, SqL.of h1.l, hz, .inl ⟨_, rfl, ?_⟩⟩
    refine ⟨_, rfl, _, rfl, _, _, rfl, rfl, ⟨hm0, hm1⟩, _, rfl, m, _, rfl, getL h1, ll, _, _, 0, rfl, rfl, h1.l, ?_, ?_⟩
    · unfold ixN
      rw [if_pos (by decide), if_pos (by simp only [List.length_map, List.length_cons]; omega)]; rfl
    · refine ⟨_, rfl, _, rfl, _, _, rfl, rfl, hm0, ?_⟩
      have h2 : MS (upd H1 ll (.lst (((y :: r).map V.int).set 0 (.int (y / many))))) m lc ll cs ((y / many) :: r) k (n - 1) := ⟨by rw [upd_ne h1.nml]; exact h1.d, by rw [upd_ne h1.ne]; exact h1.c, upd_same, h1.ne, h1.k0, by have := h1.kn; omega⟩
      have x2 := Ext.mach x1.spl h1 h2 (.inl rfl) (.inl rfl) (fun a _ _ n3 _ _ => upd_ne n3) (fun a e => by
        by_cases z : a = ll
        · rw [z, upd_same] at e; cases e
        · rw [upd_ne z] at e; exact e)
      exact hk _ _ (hmod y).1 (hmod y).2 (x1.trans x2)
theorem read_next {Q : VK} (sp : Spl (some m) Hs H0 n) (hm0 : 0 < many) (hm1 : many < 1073741824) (hn : 1 ≤ n) (hk : ∀ (r : Int) H', 0 ≤ r → r < many → Ext (some m) Hs H0 Hs H' (n - 1) → Q (.int r) H') :
    t_next K { nx := fun _ H' => Q .non H', rt := Q } (St0 m many) H0 := by
  refine ⟨fun j σ H => σ = St0 m many ∧ Ext (some m) Hs H0 Hs H n ∧ ∃ lc ll cs ls k, MS H m lc ll cs ls k n ∧ j = ls.length, ?_, ?_⟩
  · obtain ⟨lc, ll, cs, ls, k, h⟩ := (sp.mok m rfl).ok
    exact ⟨ls.length, rfl, Ext.refl sp, lc, ll, cs, ls, k, h, rfl⟩
  rintro j σ H ⟨rfl, x, lc, ll, cs, ls, k, h, rfl⟩
  refine neNil (fun Q' q => ⟨_, rfl, m, _, rfl, getL h, q⟩) h.l fun p hp => ?_
  have h1 := h.lay (o := .lst []) hp
  have x1 := x.trans (Ext.lay1 x.spl hp (.lst []))
  generalize upd H p (.lst []) = H1 at h1 x1
  cases ls with
  | nil => exact iteF (iteF (read_tail x1 h1 hm0 hm1 hn hk))
  | cons y r =>
    have hz : L2.atI ((y :: r).map V.int) 0 = some (.int y) := by
      unfold L2.atI ixN
      rw [if_pos (by decide), if_pos (by simp only [List.length_map, List.length_cons]; omega)]; rfl
    refine iteT ⟨_, rfl, m, _, rfl, getL h1, ll, _, _, _, rfl, rfl, SqL.of h1.l, hz, rfl, _, rfl, ?_⟩
    by_cases hy : y = 0
    · rw [decide_eq_true (by rw [hy])]
      refine iteT ⟨fun σ' H' => σ' = St0 m many ∧ Ext (some m) Hs H0 Hs H' n ∧ ∃ lc ll cs k, MS H' m lc ll cs r k n, fun σ' H' ⟨e, x', lc', ll', cs', k', h'⟩ => ⟨r.length, by simp, e, x', lc', ll', cs', r, k', h', rfl⟩, ?_⟩
      refine ⟨_, rfl, m, _, rfl, getL h1, _, rfl, ll, _, rfl, SqL.of h1.l, fun q hq => ?_⟩
      have e : cutV ((y :: r).map V.int) (some 1) none = r.map V.int := by
        unfold cutV
        have a1 : HT.sIx ((y :: r).map V.int).length 0 (some 1) = 1 := by
          rw [show (1 : Int) = ((1 : Nat) : Int) from rfl, HT.sIx_nat]
          simp
        have a2 : HT.sIx ((y :: r).map V.int).length ((y :: r).map V.int).length none = (y :: r).length := by simp only [HT.sIx, List.length_map]
        rw [a1, a2]
        simp
        rw [List.take_of_length_le (by simp)]
      rw [e]
      have h2 := h1.lay (o := .lst (r.map V.int)) hq
      refine ⟨_, rfl, m, _, rfl, .inl ⟨_, kL, h2.d, rfl, by show 3 < sizeLine; decide, rfl⟩, rfl, ?_⟩
      have nq : m ≠ q := ne_of_none h1.d hq
      have h3 : MS (upd (upd H1 q (.lst (r.map V.int))) m (.dK (putK (machD lc ll k) kL (.ref q)))) m lc q cs r k n := ⟨by rw [machD_putL]; exact upd_same, by rw [upd_ne (Ne.symm h1.nmc)]; exact h2.c, by rw [upd_ne (Ne.symm nq), upd_same], ne_of_none h1.c hq, h1.k0, h1.kn⟩
      refine ⟨x1.trans (Ext.mach x1.spl h1 h3 (.inl rfl) (.inr hq) (fun a n1 _ _ _ n5 => by rw [upd_ne n1, upd_ne n5]) fun a e => ?_), lc, q, cs, k, h3⟩
      by_cases z : a = m
      · rw [z, upd_same] at e; cases e
      · rw [upd_ne z] at e
        by_cases z2 : a = q
        · rw [z2]; exact hq
        · rw [upd_ne z2] at e; exact e
    · rw [decide_eq_false (fun z => hy (V.int.inj z))]
      exact iteF (read_tail x1 h1 hm0 hm1 hn hk)
end
/-! _law_begun -/
def wlcBegun : WE := wLc (wiSeq (wVar 0)) (.one 1) (wB (w2 pGe (wVar 1) (w2 pPow (wC (.int 10)) (wC (.int 18))))) (wVar 1) [1]
theorem lc_begun {ns : List Int} {n : Nat} {R : T → Nat → Prop} (hl : ns.length ≤ 63) (h : ∀ ls : List Int, R (.lst (ls.map T.int)) n) : wlcBegun [.tr (.scr ns), .no] n R := by
  have key : ∀ (rest acc : List Int), rest.length + acc.length ≤ 63 → wLcL (.one 1) (wB (w2 pGe (wVar 1) (w2 pPow (wC (.int 10)) (wC (.int 18))))) (wVar 1) [.tr (.scr ns), .no] R (rest.map T.int) (acc.map T.int) n := fun rest => by
    induction rest with
    | nil => intro acc _; exact h acc
    | cons x r ih =>
      intro acc hb
      simp only [List.length_cons] at hb
      show (CPow 10 18 ∧ if (decide ((10 : Int) ^ (18 : Int).toNat ≤ x)) = true then _ else _)
      refine ⟨⟨by decide, by decide, by decide⟩, ite2 (fun _ => ⟨?_, ?_⟩) (fun _ => ?_)⟩
      · rw [List.length_map]; exact Nat.lt_of_le_of_lt (show acc.length ≤ 63 by omega) (by decide)
      · have e : acc.map T.int ++ [T.int x] = (acc ++ [x]).map T.int := by simp
        rw [e]; exact ih (acc ++ [x]) (by simp; omega)
      · exact ih acc (by omega)
  exact key ns [] (by simpa using hl)
theorem merge_mach (lc ll : Addr) : mergeK [] [(kC, V.ref lc), (kL, V.ref ll), (kA, V.int 0)] = machD lc ll 0 := by
  unfold mergeK putK machD
  simp [kCL, kCA, kLA]
abbrev rLst (K : PySem.W.Frag) : List V → Hp → VK → Prop := fun xs H Q => ∃ p ys, xs = [V.ref p] ∧ (SqL K H p ys ∨ SqT K H p ys) ∧ ∀ l, H l = none → Q (.ref l) (upd H l (.lst ys))
def t_begun (K : PySem.W.Frag) : TS := tRet (tDisp [(tC (.str "cells"), tCB (rLst K) (tCons (tVar 0) tNil)), (tC (.str "left"), tF K wlcBegun), (tC (.str "at"), tC (.int 0))])
def spBegun (K : PySem.W.Frag) : Sp := fun vs H Q _ => ∃ (a : Addr) (ns : List Int), vs = [.ref a] ∧ SqL K H a (ns.map V.int) ∧ ns.length ≤ 63 ∧ ∀ m H', Same H H' → H m = none → (∃ lc ll cs ls, MS H' m lc ll cs ls 0 FUEL ∧ H lc = none ∧ H ll = none) → Q (.ref m) H'
theorem read_begun {K : PySem.W.Frag} {H : Hp} {a : Addr} {ns : List Int} {Q : VK} (hS : SqL K H a (ns.map V.int)) (hl : ns.length ≤ 63) (hk : ∀ m H', Same H H' → H m = none → (∃ lc ll cs ls, MS H' m lc ll cs ls 0 FUEL ∧ H lc = none ∧ H ll = none) → Q (.ref m) H') :
    t_begun K { nx := fun _ H' => Q .non H', rt := Q } [some (.ref a), none] H := by
  intro p hp
  have s1 : Same H (upd H p (.dK [])) := Same.upd_new hp
  refine ⟨_, rfl, a, _, rfl, .inl (same_sqL s1 hS), fun lc hlc => ?_⟩
  have npc : p ≠ lc := ne_of_none upd_same hlc
  have hlc0 : H lc = none := s1.free hlc
  have s2 : Same (upd H p (.dK [])) (upd (upd H p (.dK [])) lc (.lst (ns.map V.int))) := Same.upd_new hlc
  have hp2 : upd (upd H p (.dK [])) lc (.lst (ns.map V.int)) p = some (.dK []) := by rw [upd_ne npc, upd_same]
  have hc2 : upd (upd H p (.dK [])) lc (.lst (ns.map V.int)) lc = some (.lst (ns.map V.int)) := upd_same
  have s02 := s1.trans s2
  generalize upd (upd H p (.dK [])) lc (.lst (ns.map V.int)) = H2 at s2 hp2 hc2 s02
  refine ⟨none, H2, [.tr (.scr ns), .no], 0, fun r _ => ∃ ls : List Int, r = .lst (ls.map T.int), ⟨Same.refl _, fun m e => by cases e⟩, RepE0.no ⟨rfl, fun i sl e => ?_, fun i j t u l hij e1 _ _ => ?_⟩, lc_begun hl fun ls => ⟨ls, rfl⟩, ?_⟩
  · match i, e with
    | 0, e => cases e; exact ⟨.ref a, rfl, by simp only [Rep]; exact ⟨a, rfl, same_sqL s02 hS⟩⟩
    | 1, e => cases e; trivial
    | i + 2, e => cases e
  · match i, e1 with
    | 0, e1 => cases e1
    | 1, e1 => cases e1
    | i + 2, e1 => cases e1
  · rintro r n' ⟨ls, rfl⟩ ll Hs3 H3 x hll h0 hm ow
    obtain ⟨vs, e3, r3⟩ := ow
    have ev := r3.ints
    subst ev
    have nm : ∀ b, ¬ MC none H2 b := fun b ⟨m, e, _⟩ => by cases e
    have k3 : ∀ b o, H2 b = some o → H3 b = some o := fun b o e => x.keep.at_ b o e (nm b)
    refine ⟨k3 p _ hp2, [(kC, .ref lc), (kL, .ref ll), (kA, .int 0)], rfl, by show 3 ≤ 15; decide, ?_⟩
    rw [merge_mach]
    have npl : p ≠ ll := ne_of_none hp2 hll
    refine hk p _ (fun b o e => ?_) hp ⟨lc, ll, ns, ls, ⟨upd_same, by rw [upd_ne (Ne.symm npc)]; exact k3 lc _ hc2, by rw [upd_ne (Ne.symm npl)]; exact e3, ne_of_none hc2 hll, by decide, by decide⟩, hlc0, s02.free hll⟩
    rw [upd_ne (ne_of_none e hp)]
    exact k3 b o (s02 b o e)
/-! law -/
def spLaw (K : PySem.W.Frag) : Sp := fun vs H Q _ => ∃ (a : Addr) (ns : List Int), vs = [.ref a] ∧ SqL K H a (ns.map V.int) ∧ ns.length ≤ 63 ∧ ∀ H', Q (.bl true) H'
def lawEnds : WEnds := { nx := fun _ _ => False, rt := fun r _ => r = .bl true }
theorem read_law {K : PySem.W.Frag} {N : List Str} {i : Nat} {W : WS} {H : Hp} {a : Addr} {ns : List Int} {Q : VK} (hS : SqL K H a (ns.map V.int)) (hl : ns.length ≤ 63) (hQ : ∀ H', Q (.bl true) H') (hW : W lawEnds ((startT N [.scr ns]).set i (.tr .mach)) FUEL) (h0 : (L2.start N [.ref a])[0]? = some (some (.ref a))) :
    tSeq (tAsg (tCall (spBegun K) [] E0 (tCons (tVar 0) tNil)) (gName i)) (sT K W) { nx := fun _ H' => Q .non H', rt := Q } (L2.start N [.ref a]) H := by
  refine ⟨_, h0, a, ns, rfl, hS, hl, fun m H' s hm ⟨lc, ll, cs, ls, h, hlc, hll⟩ => ?_⟩
  have sp : Spl (some m) H H' FUEL := ⟨s, fun m' e => by
    cases e
    refine ⟨⟨lc, ll, cs, ls, 0, h⟩, fun b q => ?_⟩
    rcases (h.foot b).mp q with z | z | z
    · rw [z]; exact hm
    · rw [z]; exact hlc
    · rw [z]; exact hll⟩
  have r0 : Reps K (some m) H [.scr ns] [.ref a] := Reps.mk_cons (by simp only [Rep]; exact ⟨a, rfl, hS⟩) (Reps.nil_iff.mpr rfl)
  refine ⟨some m, H', H, _, FUEL, lawEnds, ⟨H, Ext.refl sp, (start_rep r0).set i (by simp only [Rep]; exact ⟨m, rfl, rfl⟩)⟩, hW, ⟨fun _ _ _ _ _ z => z.elim, fun v H2 Hs r n x rv e => ?_, fun _ _ _ _ _ z => z.elim, fun _ _ _ _ _ z => z.elim⟩, fun _ _ _ _ _ _ z => z.elim⟩
  have e' : r = .bl true := e
  subst e'
  simp only [Rep] at rv
  subst rv
  exact hQ H2
end TL
namespace TL
open PySem L2 PySem.Builtin
section
variable {prog : Program} {w : World} {A : Around} {E : Value → Shared → Prop} {s : Shared}
def binText (a : Int) : Str := ⟨((Nat.toDigits 2 a.natAbs).map Char.toNat).toArray⟩
theorem fmt_bin {a : Int} {t : Tok} {Q : Value → Shared → Prop} (h0 : 0 ≤ a) (hlen : (binText a).length ≤ sizeLine) (h : ∀ u tk, Q (.str (binText a) u) { s with toks := tk }) : wpAny (model prog w) A (formatField (.int a t) "b") Q E s := by
  show wpAny _ _ (holding [.int a t] (pyFormat (.int a t) (Str.ofString "b"))) Q E s
  apply wpAny_holding
  delta pyFormat
  apply wpAny_bind
  apply wpAny_mkStr
  · apply wpAny_bind
    refine wpAny_callSpecial?_slot (name := Str.ofString "__format__") (typeIs_int _ a t) PySem.F.slot_int_format ?_
    refine wpAny_call (codeAny_call_builtin PySem.F.slot_int_format.plain PySem.F.entry_int_format (PySem.F.slot_int_format.check _ _ _ _ _ _ _ _ (typeIs_int _ a t) (PySem.F.args_int_format_2 _ _) ?_))
    unfold Builtin.«int.__format__»
    refine wpAny_bind (wpAny_pure ?_)
    refine wpAny_bind (wpAny_pure ?_)
    refine wpAny_bind (wpAny_typeNameOf (T := "str") (typeIs_str _ _ _) (by decide) fun _ => ?_)
    refine wpAny_bind (wpAny_pure ?_)
    refine wpAny_bind (PyProof.Rows.wpAny_typeNameOfCut_int ?_)
    have key : ∀ (Y : Str) (P : PySem.Fin → Shared → Prop) (s' : Shared), Y = binText a → (∀ u tk, P (.done (.ret (.str (binText a) u))) { s' with toks := tk }) → wpAny (model prog w) A.in1 (retStr Y) P E s' := fun Y P s' e hP => by
      rw [e]
      unfold retStr
      exact wpAny_bind (wpAny_mkStr (wpAny_pure (hP _ _)) hlen)
    refine key _ _ _ ?_ fun u tk => ?_
    · refine congrArg Str.mk (congrArg List.toArray ?_)
      generalize hd : (Nat.toDigits 2 a.natAbs).map Char.toNat = ds
      have hne : ds.isEmpty = false := by
        have h1 := PyProof.Rows.tDigits_len_ge 2 a.natAbs
        rw [← hd]
        cases q : Nat.toDigits 2 a.natAbs with
        | nil => rw [q] at h1; simp at h1
        | cons c r => rfl
      have hneg : decide (a < 0) = false := decide_eq_false (by omega)
      have hm : ((Nat.toDigits 2 a.natAbs).map fun c => (if ((98 : Nat) == 88) = true then c.toUpper else c).toNat) = ds := hd
      have body : ∀ (b : Bool) (es : List Nat), b = false → es = ds → List.replicate ((-1 - ((((if b = true then [45] else []) : List Nat).length : Int) + ((([] : List Nat).length : Nat) : Int) + ((([] : List Nat).length : Nat) : Int)) - ((if es.isEmpty = true then [] else List.replicate ((0 : Int).toNat - es.length) 48 ++ es : List Nat).length : Int)).toNat) 32 ++ (if b = true then [45] else []) ++ [] ++ List.replicate 0 32 ++ (if es.isEmpty = true then [] else List.replicate ((0 : Int).toNat - es.length) 48 ++ es) ++ [] ++ List.replicate 0 32 = ds := fun b es hb he => by
        subst hb he
        rw [hne]
        simp
      exact body _ _ hneg hm
    · refine wpAny_bind (wpAny_isInstance (typeIs_str _ _ _) isSubtype_str_str (wpAny_pure ?_))
      exact h _ _
  · decide
end
variable [Mach] [CN] [Xw]
def pBin : G1 := fun x R => match x with
  | .int a => 0 ≤ a ∧ (binText a).length ≤ sizeLine ∧ R (.str (binText a))
  | _ => False
theorem q_fmtb {X : Cx} {e : Expr} {f : WE} {k : Nat} {p1 p2 p3 p4 : Pos} (h : QE X e f) : QE X (.JoinedStr [.FormattedValue e (-1) (some (.JoinedStr [.Constant (.str "b") k p1] p2)) p3] p4) (w1 pBin f) := by
  refine pe_joined1 ⟨fun pins s σ H Q I h' => ?_⟩
  obtain ⟨am, Hs, ts, n, R, sp, re, h', kk⟩ := h'
  refine wpAny_FormattedValue_spec (thn (h.run pins s σ H (fun v H1 => ∃ a : Int, v = .int a ∧ 0 ≤ a ∧ (binText a).length ≤ sizeLine ∧ Q (.str (binText a)) H1) I ⟨am, Hs, ts, n, _, sp, re, h', fun x n1 hx vx Hs1 H1 e1 rx => ?_⟩) fun v s1 ⟨x, H1, I1, r1, a, ex, h0, hl, q⟩ => ?_)
  · cases x with
    | int a =>
      simp only [Rep] at rx
      exact ⟨a, rx, hx.1, hx.2.1, kk _ n1 hx.2.2 _ Hs1 H1 e1 (by simp only [Rep])⟩
    | _ => exact hx.elim
  · subst ex
    obtain ⟨t, rfl⟩ := r1
    have hj : PE X (.JoinedStr [.Constant (.str "b") k p1] p2) (tC (.str "b")) := pe_joined1 pe_str
    refine thn (hj.run pins s1 σ H1 (fun v H2 => v = .str "b" ∧ H2 = H1) I1 ⟨rfl, rfl⟩) fun r s2 ⟨y, H2, I2, r2, ey, eh⟩ => ?_
    subst ey eh
    obtain ⟨t2, rfl⟩ := r2
    exact ⟨_, t2, rfl, fmt_bin h0 hl fun u tk => ⟨.str (binText a), H2, I2.tok tk, ⟨u, rfl⟩, q⟩⟩
end TL
namespace TL
open PySem L2
variable [Mach] [CN] [Xw]
def pNeg : G1 := fun x R => match x with
  | .int i => R (.int (-i))
  | _ => False
def pInv : G1 := fun x R => match x with
  | .int i => R (.int (Builtin.bitNot i))
  | _ => False
def pIAdd : G2 := fun x y R => match x, y with
  | .int i, .int j => R (.int (i + j))
  | .str a, .str b => a.length + b.length ≤ sizeLine ∧ R (.str (a ++ b))
  | _, _ => False
section
variable {K : PySem.W.Frag}
theorem ok_neg : R1Ok K (rU fun i => .int (-i)) pNeg := fun am Hs H n x vx R Q sp rx h k => by
  unfold pNeg at h
  split at h
  · simp only [Rep] at rx
    exact ⟨_, rx, k.here sp h (by simp only [Rep])⟩
  · exact h.elim
theorem ok_inv : R1Ok K (rU fun i => .int (Builtin.bitNot i)) pInv := fun am Hs H n x vx R Q sp rx h k => by
  unfold pInv at h
  split at h
  · simp only [Rep] at rx
    exact ⟨_, rx, k.here sp h (by simp only [Rep])⟩
  · exact h.elim
theorem ok_iaddX : R2Ok K (fun x y H Q => (rI0 fun i j => .int (i + j)) x y H Q ∨ rStr2 (fun i j => i ++ j) x y H Q) pIAdd := fun am Hs H n x y vx vy R Q sp rx ry h k => by
  unfold pIAdd at h
  split at h
  · simp only [Rep] at rx ry
    exact .inl ⟨_, _, rx, ry, k.here sp h (by simp only [Rep])⟩
  · simp only [Rep] at rx ry
    exact .inr ⟨_, _, rx, ry, h.1, k.here sp h.2 (by simp only [Rep])⟩
  · exact h.elim
end
section
variable {X : Cx}
theorem iop_addX : OpR X (inplaceOp .Add) (fun x y H Q => (rI0 fun i j => .int (i + j)) x y H Q ∨ rStr2 (fun i j => i ++ j) x y H Q) := iop_add.or iop_add_str
end
/-! a op b op c -/
def wChain (g g' : G2) (fa fb fc : WE) : WE := fun ts n R => fa ts n fun x n1 => fb ts n1 fun y n2 => g x y fun z => match z with
  | .bl k => if k = true then fc ts n2 fun w n3 => g' y w fun z => R z n3 else R (.bl false) n2
  | _ => False
section
variable {X : Cx} {a b c : Expr} {fa fb fc : WE} {pos : Pos} {op op' : CmpOp} {r r' : R2} {g g' : G2}
theorem q_chain (ho : OpR X (compareOp op) r) (hg : R2Ok X.K r g) (ho' : OpR X (compareOp op') r') (hg' : R2Ok X.K r' g') (ha : QE X a fa) (hb : QE X b fb) (hc : QE X c fc)
    (hm : lastMarks [op, op'] [b, c] = false := by with_unfolding_all rfl) : QE X (.Compare a [op, op'] [b, c] pos) (wChain g g' fa fb fc) :=
  PE.imp (pe_chain ho ho' ha hb hc hm) fun σ H Q ⟨am, Hs, ts, n, R, sp, re, h, k⟩ => by
    refine ⟨am, Hs, ts, n, _, sp, re, h, fun x n1 hx vx Hs1 H1 e1 rx => ⟨am, Hs1, ts, n1, _, e1.spl, re.ext e1, hx, fun y n2 hy vy Hs2 H2 e2 ry => ?_⟩⟩
    refine hg am Hs2 H2 n2 x y vx vy _ _ e2.spl (Rep.mono e2.same _ _ rx) ry hy fun z hz v Hs3 H3 e3 rz => ?_
    split at hz
    · simp only [Rep] at rz
      refine ⟨_, rz, ?_⟩
      split at hz
      · rename_i e
        subst e
        refine iteT ⟨am, Hs3, ts, n2, _, e3.spl, ((re.ext e1).ext e2).ext e3, hz, fun w n4 hw vw Hs4 H4 e4 rw => ?_⟩
        exact hg' am Hs4 H4 n4 y w vy vw _ Q e4.spl (Rep.mono e4.same _ _ (Rep.mono e3.same _ _ ry)) rw hw fun z' hz' v' Hs5 H5 e5 rz' => k z' n4 hz' v' Hs5 H5 ((((e1.trans e2).trans e3).trans e4).trans e5) rz'
      · rename_i e
        rw [Bool.not_eq_true] at e
        subst e
        exact iteF (k _ n2 hz _ Hs3 H3 ((e1.trans e2).trans e3) (by simp only [Rep]))
    · exact hz.elim
end
/-! own things become shared -/
def wsFrz (w : WS) : WS := fun W ts n => w W (ts.map Sl.see) n
theorem ST.frz {K : PySem.W.Frag} {am : Option Addr} {H0 Hs0 H : Hp} {σ : L2.St} {ts : Env} {n : Nat} (s : ST K am H0 Hs0 σ H ts n) : ST K am H0 Hs0 σ H (ts.map Sl.see) n := by
  obtain ⟨Hs, x, b⟩ := s
  obtain ⟨Hx, s1, sp1, re1, nw1⟩ := thaw x.spl b.re
  refine ⟨Hx, ⟨sp1, x.same.trans s1, x.keep, fun a o e => ?_⟩, ⟨re1, fun i t l e1 _ => ?_⟩⟩
  · rcases nw1 a o e with z | ⟨i, t, e1, e2⟩
    · exact x.new a o z
    · exact .inr (b.nw i t a e1 e2)
  · rw [List.getElem?_map] at e1
    cases q : ts[i]? with
    | none => rw [q] at e1; cases e1
    | some s0 => rw [q] at e1; cases s0 <;> cases e1
section
variable {X : Cx} {st : Stmt} {rest : List Stmt} {w : WS} {e : Expr} {f : WE}
theorem qs_frz (h : QS X st w) : QS X st (wsFrz w) := PS.imp h fun D σ H ⟨am, H0, Hs0, ts, n, W, s, h, k, kx⟩ => ⟨am, H0, Hs0, _, n, W, s.frz, h, k, kx⟩
theorem qss_frz (h : QSs X rest w) : QSs X rest (wsFrz w) := PSs.imp h fun D σ H ⟨am, H0, Hs0, ts, n, W, s, h, k, kx⟩ => ⟨am, H0, Hs0, _, n, W, s.frz, h, k, kx⟩
end
/-! list + list, one's own -/
def pCat : G2 := fun x y R => match x, y with
  | .lst a, .lst b => a.length + b.length ≤ sizeLine ∧ R (.lst (a ++ b))
  | _, _ => False
section
variable {X : Cx} {a b : Expr} {fa fb : WE} {pos : Pos}
theorem qf_cat (ha : QE X a fa) (hb : QE X b fb) : QF X (.BinOp a .Add b pos) (w2 pCat fa fb) := PE.imp (pe_op op_cat ha hb) fun σ H Q ⟨am, Hs, ts, n, R, sp, re, h, k⟩ => by
  refine ⟨am, Hs, ts, n, _, sp, re, h, fun x n1 hx vx Hs1 H1 e1 rx => ⟨am, Hs1, ts, n1, _, e1.spl, re.ext e1, hx, fun y n2 hy vy Hs2 H2 e2 ry => ?_⟩⟩
  have rx := Rep.mono e2.same _ _ rx
  unfold pCat at hy
  split at hy
  · simp only [Rep] at rx ry
    obtain ⟨p, xs, rfl, h1, h2⟩ := rx
    obtain ⟨q, ys, rfl, h3, h4⟩ := ry
    refine ⟨p, q, xs, ys, rfl, rfl, e2.spl.sub _ _ h1, e2.spl.sub _ _ h3, by rw [← h2.length, ← h4.length]; exact hy.1, fun c hc => ?_⟩
    exact k _ n2 hy.2 c Hs2 _ ((e1.trans e2).trans (Ext.lay1 e2.spl hc _)) (e1.keep.dom c (e2.keep.dom c hc)) (e2.spl.sub.free hc) (mc_new e2.spl hc) ⟨_, upd_same, h2.append h4⟩
  · exact hy.elim
end
/-! partition -/
def mPart : T → GN := fun x xs R => match x, xs with
  | .str a, [.str b] => (b.length == 0) = false ∧ a.length ≤ sizeLine ∧ R (.tup [.str (Txt.partition a b).1, .str (Txt.partition a b).2.1, .str (Txt.partition a b).2.2])
  | _, _ => False
theorem ok_part {K : PySem.W.Frag} : RMOk K (fun x xs H Q => ∃ a b, x = V.str a ∧ xs = [V.str b] ∧ (b.length == 0) = false ∧ a.length ≤ sizeLine ∧
    ∀ p, H p = none → Q (.ref p) (upd H p (.tup [.str (Txt.partition a b).1, .str (Txt.partition a b).2.1, .str (Txt.partition a b).2.2]))) mPart := fun am Hs H n x vx y vy R Q sp rx ry h k => by
  unfold mPart at h
  split at h
  · obtain ⟨v, rfl, h1⟩ := ry.one
    simp only [Rep] at rx h1; subst rx h1
    exact ⟨_, _, rfl, rfl, h.1, h.2.1, fun p hp => k.lay sp h.2.2 hp _ (rep_tup_new sp hp (reps_strs (ns := [_, _, _])))⟩
  · exact h.elim
/-! a tuple of the module's own top -/
def absF : Value → Option V
  | .int i _ => some (.int i)
  | .str x _ => some (.str x)
  | _ => none
def absVs : List Value → Option (List V)
  | [] => some []
  | u :: r => match absF u, absVs r with
    | some x, some xs => some (x :: xs)
    | _, _ => none
theorem absF_ok {u : Value} {x : V} (h : absF u = some x) : RelV x u := by
  unfold absF at h
  split at h
  · cases h; exact ⟨_, rfl⟩
  · cases h; exact ⟨_, rfl⟩
  · cases h
theorem absVs_ok : ∀ {us : List Value} {xs : List V}, absVs us = some xs → Vals xs us
  | [], xs, h => by cases h; exact .nil
  | u :: r, xs, h => by
    unfold absVs at h
    split at h
    · rename_i x ys e1 e2
      cases h
      exact .cons (absF_ok e1) (absVs_ok e2)
    · cases h
theorem flat_reps {K : PySem.W.Frag} {am : Option Addr} {H : Hp} : ∀ {ts : List T}, ts.all flatT = true → Reps K am H ts (ts.map toV)
  | [], _ => Reps.nil_iff.mpr rfl
  | t :: ts, h => by
    rw [List.all_cons, Bool.and_eq_true] at h
    exact Reps.mk_cons (flat_rep h.1) (flat_reps h.2)
theorem glob_tup {K : PySem.W.Frag} {mg : Str → Option Value} {x : Str} {a : Addr} {od : Option Addr} {its : Array Value} {n : Nat} {sl : Array (Option Value)} {ts : List T} (hm : mg x = some (.ref a)) (l : K.lookup a = some ⟨.type "tuple", od, .seq its n, sl⟩)
    (hv : absVs its.toList = some (ts.map toV)) (hf : ts.all flatT = true) (hz : ts.length ≤ 1000) : Glob K mg x (.tup ts) := by
  have r := absVs_ok hv
  refine ⟨a, hm, fun am H => ?_⟩
  simp only [Rep]
  refine ⟨a, ts.map toV, rfl, .inr ⟨_, its, n, l, rfl, rfl, ?_, r⟩, flat_reps hf⟩
  have e := r.length
  have e2 : ts.length = its.size := by simpa using e
  rw [← e2]
  exact Nat.le_trans hz (by decide)
end TL
namespace TL
open PySem L2
variable [Mach] [CN] [Xw]
/-! ### loops by invariants, with an abstract rest -/
def stLc (tg : Tgt) (t : WT) (fe : WE) (ts : Env) (x : T) (acc : List T) (n : Nat) (k : List T → Nat → Prop) : Prop := match tg.put x ts with
  | some ts1 => t ts1 n fun c n1 => if c = true then fe ts1 n1 fun y n2 => acc.length < sizeLine ∧ k (acc ++ [y]) n2 else k acc n1
  | none => False
theorem lc_inv {tg : Tgt} {t : WT} {fe : WE} {ts : Env} {R : T → Nat → Prop} (P : List T → List T → Nat → Prop) (h0 : ∀ acc n, P [] acc n → R (.lst acc) n)
    (hs : ∀ x r acc n, P (x :: r) acc n → ∀ k : List T → Nat → Prop, (∀ acc' n', P r acc' n' → k acc' n') → stLc tg t fe ts x acc n k) : ∀ xs acc n, P xs acc n → wLcL tg t fe ts R xs acc n
  | [], acc, n, h => h0 acc n h
  | x :: r, acc, n, h => hs x r acc n h _ fun acc' n' h' => lc_inv P h0 hs r acc' n' h'
theorem for_inv {g : WG} {wb : WS} {W : WEnds} (P : List T → Env → Nat → Prop) (h0 : ∀ ts n, P [] ts n → W.nx ts n)
    (hs : ∀ x r ts n, P (x :: r) ts n → ∀ k : Env → Nat → Prop, (∀ ts' n', P r ts' n' → k ts' n') → g x ts n fun ts1 n1 => wb { nx := k, rt := W.rt, bk := W.nx, ct := k } ts1 n1) : ∀ xs ts n, P xs ts n → wFor g wb W xs ts n
  | [], ts, n, h => h0 ts n h
  | x :: r, ts, n, h => hs x r ts n h _ fun ts' n' h' => for_inv P h0 hs r ts' n' h'
/-- a comprehension that draws nothing -/
theorem lc_pure {tg : Tgt} {t : WT} {fe : WE} {ts : Env} {R : T → Nat → Prop} (f : T → List T) {n : Nat} (hf : ∀ x, (f x).length ≤ 1) : ∀ (xs acc : List T), acc.length + xs.length ≤ sizeLine →
    (∀ x ∈ xs, ∀ (acc : List T) (k : List T → Nat → Prop), acc.length < sizeLine → k (acc ++ f x) n → stLc tg t fe ts x acc n k) → R (.lst (acc ++ xs.flatMap f)) n → wLcL tg t fe ts R xs acc n
  | [], acc, _, _, h => by
    show R (.lst acc) n
    simpa using h
  | x :: r, acc, hl, hs, h => by
    simp only [List.length_cons] at hl
    refine hs x (List.mem_cons_self ..) acc _ (by omega) (lc_pure f hf r (acc ++ f x) ?_ (fun y hy => hs y (List.mem_cons_of_mem _ hy)) ?_)
    · have := hf x
      rw [List.length_append]; omega
    · rw [List.flatMap_cons, ← List.append_assoc] at h; exact h
/-- .. that makes one thing of each -/
theorem lc_map {tg : Tgt} {fe : WE} {ts : Env} {R : T → Nat → Prop} (f : T → T) {n : Nat} {xs : List T} (hl : xs.length ≤ sizeLine)
    (hs : ∀ x ∈ xs, ∀ (k : T → Nat → Prop), k (f x) n → match tg.put x ts with | some ts1 => fe ts1 n k | none => False) (h : R (.lst (xs.map f)) n) : wLcL tg wTrue fe ts R xs [] n := by
  refine lc_pure (fun x => [f x]) (fun _ => Nat.le_refl _) xs [] (by simpa using hl) (fun x hx acc k ha hk => ?_) ?_
  · have q := hs x hx (fun y n2 => acc.length < sizeLine ∧ k (acc ++ [y]) n2) ⟨ha, hk⟩
    unfold stLc
    cases e : tg.put x ts with
    | none => rw [e] at q; exact q
    | some ts1 => rw [e] at q; simpa only [wTrue, if_true] using q
  · rw [List.nil_append]
    have e : ∀ ys : List T, ys.flatMap (fun x => [f x]) = ys.map f := fun ys => by
      induction ys with
      | nil => rfl
      | cons a r ih => rw [List.flatMap_cons, ih]; rfl
    rw [e]; exact h
theorem blsOf_true : ∀ {ts : List T}, (∀ t ∈ ts, t = .bl true) → ∃ bs, blsOf ts = some bs ∧ bs.all id = true
  | [], _ => ⟨[], rfl, rfl⟩
  | t :: r, h => by
    obtain ⟨bs, e1, e2⟩ := blsOf_true fun u hu => h u (List.mem_cons_of_mem _ hu)
    have e := h t (List.mem_cons_self ..)
    subst e
    refine ⟨true :: bs, ?_, by simp [e2]⟩
    unfold blsOf
    rw [e1]; rfl
theorem blsOf_mapF {α : Type} (f : α → Bool) : ∀ (xs : List α), blsOf (xs.map fun x => T.bl (f x)) = some (xs.map f)
  | [] => rfl
  | x :: r => by
    rw [List.map_cons]
    unfold blsOf
    rw [blsOf_mapF f r]; rfl
theorem atI0 {α : Type} (a : α) (r : List α) : atI (a :: r) 0 = some a := atI_nat (j := 0) rfl
theorem atI1 {α : Type} (a b : α) (r : List α) : atI (a :: b :: r) 1 = some b := atI_nat (j := 1) rfl
theorem atI2 {α : Type} (a b c : α) (r : List α) : atI (a :: b :: c :: r) 2 = some c := atI_nat (j := 2) rfl
theorem atI3 {α : Type} (a b c d : α) (r : List α) : atI (a :: b :: c :: d :: r) 3 = some d := atI_nat (j := 3) rfl
theorem atI4 {α : Type} (a b c d e : α) (r : List α) : atI (a :: b :: c :: d :: e :: r) 4 = some e := atI_nat (j := 4) rfl
/-! the primitives at known kinds -/
section
variable (R : T → Prop) (f : Bool → Bool)
theorem pIx_l (xs : List T) (i : Int) : pIx (.lst xs) (.int i) R = match atI xs i with | some t => R t | none => False := rfl
theorem pIx_t (xs : List T) (i : Int) : pIx (.tup xs) (.int i) R = match atI xs i with | some t => R t | none => False := rfl
theorem pIx_s (z : Str) (i : Int) : pIx (.str z) (.int i) R = (z.length ≤ sizeLine ∧ match atI z.cps.toList i with | some c => R (.str ⟨#[c]⟩) | none => False) := rfl
theorem pIx_r (ns : List Int) (i : Int) : pIx (.scr ns) (.int i) R = match atI ns i with | some t => R (.int t) | none => False := rfl
theorem pInt_ii (g : Int → Int → T) (i j : Int) : pInt g (.int i) (.int j) R = R (g i j) := rfl
theorem pIntC_ii (C : Int → Int → Prop) (g : Int → Int → T) (i j : Int) : pIntC C g (.int i) (.int j) R = (C i j ∧ R (g i j)) := rfl
theorem pAdd_ii (i j : Int) : pAdd (.int i) (.int j) R = R (.int (i + j)) := rfl
theorem pAdd_ss (a b : Str) : pAdd (.str a) (.str b) R = (a.length + b.length ≤ sizeLine ∧ R (.str (a ++ b))) := rfl
theorem pAdd_ll (a b : List T) : pAdd (.lst a) (.lst b) R = (a.length + b.length ≤ sizeLine ∧ R (.lst (a ++ b))) := rfl
theorem pAdd_tt (a b : List T) : pAdd (.tup a) (.tup b) R = (a.length + b.length ≤ sizeLine ∧ R (.tup (a ++ b))) := rfl
theorem pIAdd_ii (i j : Int) : pIAdd (.int i) (.int j) R = R (.int (i + j)) := rfl
theorem pIAdd_ss (a b : Str) : pIAdd (.str a) (.str b) R = (a.length + b.length ≤ sizeLine ∧ R (.str (a ++ b))) := rfl
theorem pCat_ll (a b : List T) : pCat (.lst a) (.lst b) R = (a.length + b.length ≤ sizeLine ∧ R (.lst (a ++ b))) := rfl
theorem pEqB_ii (i j : Int) : pEqB f (.int i) (.int j) R = R (.bl (f (decide (i = j)))) := rfl
theorem pEqB_ss (i j : Str) : pEqB f (.str i) (.str j) R = R (.bl (f (decide (i = j)))) := rfl
theorem pEqB_bb (i j : Bool) : pEqB f (.bl i) (.bl j) R = R (.bl (f (decide (i = j)))) := rfl
theorem pEqB_tt (a b : List T) : pEqB f (.tup a) (.tup b) R = match T.dat (.tup a), T.dat (.tup b) with | some d, some e => SeqAt.shaped d = true ∧ SeqAt.shaped e = true ∧ R (.bl (f (PyData.eqv d e))) | _, _ => False := rfl
theorem pEqB_ll (a b : List T) : pEqB f (.lst a) (.lst b) R = match T.dat (.lst a), T.dat (.lst b) with | some d, some e => SeqAt.shaped d = true ∧ SeqAt.shaped e = true ∧ R (.bl (f (PyData.eqv d e))) | _, _ => False := rfl
theorem pOrd_ii (gi : Int → Int → Bool) (gs : List Nat → List Nat → Bool) (i j : Int) : pOrd gi gs (.int i) (.int j) R = R (.bl (gi i j)) := rfl
theorem pOrd_ss (gi : Int → Int → Bool) (gs : List Nat → List Nat → Bool) (i j : Str) : pOrd gi gs (.str i) (.str j) R = R (.bl (gs i.cps.toList j.cps.toList)) := rfl
theorem pInB_ss (a b : Str) : pInB f (.str a) (.str b) R = R (.bl (f (strIn a b))) := rfl
theorem pInB_sl (a : Str) (ys : List T) : pInB f (.str a) (.lst ys) R = (ys.all flatT = true ∧ R (.bl (f (inT (.str a) ys)))) := by
  show (flatT (.str a) = true ∧ ys.all flatT = true ∧ R (.bl (f (inT (.str a) ys)))) = _
  simp [flatT]
theorem pInB_st (a : Str) (ys : List T) : pInB f (.str a) (.tup ys) R = (ys.all flatT = true ∧ R (.bl (f (inT (.str a) ys)))) := by
  show (flatT (.str a) = true ∧ ys.all flatT = true ∧ R (.bl (f (inT (.str a) ys)))) = _
  simp [flatT]
theorem pInB_il (a : Int) (ys : List T) : pInB f (.int a) (.lst ys) R = (ys.all flatT = true ∧ R (.bl (f (inT (.int a) ys)))) := by
  show (flatT (.int a) = true ∧ ys.all flatT = true ∧ R (.bl (f (inT (.int a) ys)))) = _
  simp [flatT]
theorem pInB_it (a : Int) (ys : List T) : pInB f (.int a) (.tup ys) R = (ys.all flatT = true ∧ R (.bl (f (inT (.int a) ys)))) := by
  show (flatT (.int a) = true ∧ ys.all flatT = true ∧ R (.bl (f (inT (.int a) ys)))) = _
  simp [flatT]
theorem pMul_ii (i j : Int) : pMul (.int i) (.int j) R = (CMul i j ∧ R (.int (i * j))) := rfl
theorem pMul_si (z : Str) (i : Int) : pMul (.str z) (.int i) R = ((0 ≤ i ∧ i ≤ 1000 ∧ z.length ≤ 1000) ∧ R (.str (strRep z i))) := rfl
theorem pLen_s (x : Str) : pLen [.str x] R = (x.length ≤ sizeLine ∧ R (.int x.length)) := rfl
theorem pLen_l (x : List T) : pLen [.lst x] R = R (.int x.length) := rfl
theorem pLen_t (x : List T) : pLen [.tup x] R = R (.int x.length) := rfl
theorem pLen_r (x : List Int) : pLen [.scr x] R = R (.int x.length) := rfl
theorem pInt1_i (i : Int) : pInt1 [.int i] R = R (.int i) := rfl
theorem pStr1_i (i : Int) : pStr1 [.int i] R = (i.natAbs.log2 < 1920 ∧ R (.str (toString i))) := rfl
theorem pMM_ii (g : Int → Int → Int) (i j : Int) : pMM g [.int i, .int j] R = R (.int (g i j)) := rfl
theorem pListOf_l (x : List T) : pListOf [.lst x] R = R (.lst x) := rfl
theorem pListOf_t (x : List T) : pListOf [.tup x] R = R (.lst x) := rfl
theorem pListOf_r (x : List Int) : pListOf [.scr x] R = R (.lst (x.map T.int)) := rfl
theorem pTupOf_l (x : List T) : pTupOf [.lst x] R = R (.tup x) := rfl
theorem pTupOf_t (x : List T) : pTupOf [.tup x] R = R (.tup x) := rfl
theorem pSl_s (z : Str) (lo hi : Option Int) : pSl (.str z) lo hi R = (z.length ≤ sizeLine ∧ R (.str (cutS z lo hi))) := rfl
theorem pSl_l (z : List T) (lo hi : Option Int) : pSl (.lst z) lo hi R = R (.lst (cutT z lo hi)) := rfl
theorem pSl_t (z : List T) (lo hi : Option Int) : pSl (.tup z) lo hi R = R (.tup (cutT z lo hi)) := rfl
theorem pIsB_bb (i j : Bool) : pIsB f (.bl i) (.bl j) R = R (.bl (f (decide (i = j)))) := rfl
theorem pAll_l (g : List Bool → Bool) (ts : List T) : pAllAny g [.lst ts] R = match blsOf ts with | some bs => R (.bl (g bs)) | none => False := rfl
theorem items_l (S : List T → Prop) (x : List T) : itemsT (.lst x) S = S x := rfl
theorem items_t (S : List T → Prop) (x : List T) : itemsT (.tup x) S = S x := rfl
theorem items_s (S : List T → Prop) (x : Str) : itemsT (.str x) S = S (signs x) := rfl
theorem items_r (S : List T → Prop) (x : List Int) : itemsT (.scr x) S = S (x.map T.int) := rfl
end
section
variable (R : T → Prop)
theorem pIx_t0 (a : T) (r : List T) : pIx (.tup (a :: r)) (.int 0) R = R a := by rw [pIx_t, atI0]
theorem pIx_t1 (a b : T) (r : List T) : pIx (.tup (a :: b :: r)) (.int 1) R = R b := by rw [pIx_t, atI1]
theorem pIx_t2 (a b c : T) (r : List T) : pIx (.tup (a :: b :: c :: r)) (.int 2) R = R c := by rw [pIx_t, atI2]
theorem pIx_t3 (a b c d : T) (r : List T) : pIx (.tup (a :: b :: c :: d :: r)) (.int 3) R = R d := by rw [pIx_t, atI3]
theorem pIx_l0 (a : T) (r : List T) : pIx (.lst (a :: r)) (.int 0) R = R a := by rw [pIx_l, atI0]
theorem pIx_l1 (a b : T) (r : List T) : pIx (.lst (a :: b :: r)) (.int 1) R = R b := by rw [pIx_l, atI1]
theorem pIx_l2 (a b c : T) (r : List T) : pIx (.lst (a :: b :: c :: r)) (.int 2) R = R c := by rw [pIx_l, atI2]
theorem pIx_l3 (a b c d : T) (r : List T) : pIx (.lst (a :: b :: c :: d :: r)) (.int 3) R = R d := by rw [pIx_l, atI3]
end
theorem rangeT_drop {lo : Int} {m i : Nat} (h : i < m) : (rangeT lo m).drop i = .int (lo + (i : Nat)) :: (rangeT lo m).drop (i + 1) := by
  have hl : i < (rangeT lo m).length := by unfold rangeT; simpa using h
  rw [List.drop_eq_getElem_cons hl]
  congr 1
  simp [rangeT]
theorem for_rng {g : WG} {wb : WS} {W : WEnds} {lo : Int} {m : Nat} (P : Nat → Env → Nat → Prop) (h0 : ∀ ts n, P m ts n → W.nx ts n)
    (hs : ∀ i ts n, i < m → P i ts n → ∀ k : Env → Nat → Prop, (∀ ts' n', P (i + 1) ts' n' → k ts' n') → g (.int (lo + (i : Nat))) ts n fun ts1 n1 => wb { nx := k, rt := W.rt, bk := W.nx, ct := k } ts1 n1) {ts : Env} {n : Nat} (h : P 0 ts n) : wFor g wb W (rangeT lo m) ts n := by
  have hlen : (rangeT lo m).length = m := by simp [rangeT]
  refine for_inv (fun rest ts n => ∃ i, i ≤ m ∧ rest = (rangeT lo m).drop i ∧ P i ts n) ?_ ?_ _ _ _ ⟨0, Nat.zero_le _, by simp, h⟩
  · rintro ts n ⟨i, hi, e, hP⟩
    have : i = m := by
      have := congrArg List.length e
      rw [List.length_drop, hlen] at this
      simp at this
      omega
    subst this
    exact h0 ts n hP
  · rintro x r ts n ⟨i, hi, e, hP⟩ k hk
    have hlt : i < m := by
      rcases Nat.lt_or_ge i m with z | z
      · exact z
      · rw [List.drop_eq_nil_of_le (by rw [hlen]; exact z)] at e; cases e
    rw [rangeT_drop hlt] at e
    injection e with e1 e2
    subst e1
    exact hs i ts n hlt hP k fun ts' n' h' => hk ts' n' ⟨i + 1, hlt, e2, h'⟩
theorem lc_rng {tg : Tgt} {t : WT} {fe : WE} {ts : Env} {R : T → Nat → Prop} {lo : Int} {m : Nat} (P : Nat → List T → Nat → Prop) (h0 : ∀ acc n, P m acc n → R (.lst acc) n)
    (hs : ∀ i acc n, i < m → P i acc n → ∀ k : List T → Nat → Prop, (∀ acc' n', P (i + 1) acc' n' → k acc' n') → stLc tg t fe ts (.int (lo + (i : Nat))) acc n k) {n : Nat} (h : P 0 [] n) : wLcL tg t fe ts R (rangeT lo m) [] n := by
  have hlen : (rangeT lo m).length = m := by simp [rangeT]
  refine lc_inv (fun rest acc n => ∃ i, i ≤ m ∧ rest = (rangeT lo m).drop i ∧ P i acc n) ?_ ?_ _ _ _ ⟨0, Nat.zero_le _, by simp, h⟩
  · rintro acc n ⟨i, hi, e, hP⟩
    have : i = m := by
      have := congrArg List.length e
      rw [List.length_drop, hlen] at this
      simp at this
      omega
    subst this
    exact h0 acc n hP
  · rintro x r acc n ⟨i, hi, e, hP⟩ k hk
    have hlt : i < m := by
      rcases Nat.lt_or_ge i m with z | z
      · exact z
      · rw [List.drop_eq_nil_of_le (by rw [hlen]; exact z)] at e; cases e
    rw [rangeT_drop hlt] at e
    injection e with e1 e2
    subst e1
    exact hs i acc n hlt hP k fun acc' n' h' => hk acc' n' ⟨i + 1, hlt, e2, h'⟩
theorem dats_strs : ∀ ss : List Str, T.dats (ss.map T.str) = some (ss.map PyData.str)
  | [] => rfl
  | a :: r => by
    rw [List.map_cons, List.map_cons]
    unfold T.dats
    rw [dats_strs r]; rfl
theorem shaped_strs {ss : List Str} (h : ∀ s ∈ ss, PyData.canLay0 (.str s) = true) : SeqAt.shaped (.list (ss.map PyData.str)) = true := by
  have h1 : ∀ ss : List Str, (∀ s ∈ ss, PyData.canLay0 (.str s) = true) → PyData.canLayAll0 (ss.map PyData.str) = true := fun ss => by
    induction ss with
    | nil => intro _; rfl
    | cons n r ih =>
      intro h
      simp only [List.map_cons, PyData.canLayAll0]
      rw [h n (List.mem_cons_self ..), ih fun z hz => h z (List.mem_cons_of_mem _ hz)]; rfl
  have h2 : ∀ ss : List Str, PyData.depthAll (ss.map PyData.str) = 0 := fun ss => by
    induction ss with
    | nil => rfl
    | cons n r ih => simp only [List.map_cons, PyData.depthAll, PyData.depth, ih]; rfl
  unfold SeqAt.shaped
  rw [Bool.and_eq_true]
  exact ⟨by simp only [PyData.canLay0]; exact h1 ss h, decide_eq_true (by simp only [PyData.depth, h2]; decide)⟩
theorem eqv_strs (ns : List Str) : PyData.eqv (.list (ns.map PyData.str)) (.list []) = ns.isEmpty := by
  cases ns with
  | nil => simp only [PyData.eqv, List.map_nil, PyData.eqvAll, List.isEmpty_nil]
  | cons n r => simp only [PyData.eqv, List.map_cons, PyData.eqvAll, List.isEmpty_cons]
/-- texts == [] -/
theorem eq_nilS (f : Bool → Bool) {ss : List Str} (h : ∀ s ∈ ss, PyData.canLay0 (.str s) = true) {R : T → Prop} (hR : R (.bl (f ss.isEmpty))) : pEqB f (.lst (ss.map T.str)) (.lst []) R := by
  rw [pEqB_ll]
  have e1 : T.dat (.lst (ss.map T.str)) = some (.list (ss.map PyData.str)) := by
    unfold T.dat
    rw [dats_strs]; rfl
  have e2 : T.dat (.lst []) = some (.list []) := rfl
  rw [e1, e2]
  refine ⟨shaped_strs h, by decide, ?_⟩
  rw [eqv_strs]; exact hR
end TL
namespace TL
open PySem L2
variable [Mach] [CN] [Xw]
section
variable (R : T → Nat → Prop) (n : Nat) (t : T) (r : Env)
theorem wVar_0 : wVar 0 (.tr t :: r) n R = R t n := rfl
theorem wVarT_0 : wVar 0 (List.map Sl.see (.tr t :: r)) n R = R t n := rfl
theorem wVarO_0 : wVar 0 (List.map Sl.see (.own t :: r)) n R = R t n := rfl
theorem wVar_1 (s0 : Sl) : wVar 1 (s0 :: .tr t :: r) n R = R t n := rfl
theorem wVarT_1 (s0 : Sl) : wVar 1 (List.map Sl.see (s0 :: .tr t :: r)) n R = R t n := rfl
theorem wVarO_1 (s0 : Sl) : wVar 1 (List.map Sl.see (s0 :: .own t :: r)) n R = R t n := rfl
theorem wVar_2 (s0 s1 : Sl) : wVar 2 (s0 :: s1 :: .tr t :: r) n R = R t n := rfl
theorem wVarT_2 (s0 s1 : Sl) : wVar 2 (List.map Sl.see (s0 :: s1 :: .tr t :: r)) n R = R t n := rfl
theorem wVarO_2 (s0 s1 : Sl) : wVar 2 (List.map Sl.see (s0 :: s1 :: .own t :: r)) n R = R t n := rfl
theorem wVar_3 (s0 s1 s2 : Sl) : wVar 3 (s0 :: s1 :: s2 :: .tr t :: r) n R = R t n := rfl
theorem wVarT_3 (s0 s1 s2 : Sl) : wVar 3 (List.map Sl.see (s0 :: s1 :: s2 :: .tr t :: r)) n R = R t n := rfl
theorem wVarO_3 (s0 s1 s2 : Sl) : wVar 3 (List.map Sl.see (s0 :: s1 :: s2 :: .own t :: r)) n R = R t n := rfl
theorem wVar_4 (s0 s1 s2 s3 : Sl) : wVar 4 (s0 :: s1 :: s2 :: s3 :: .tr t :: r) n R = R t n := rfl
theorem wVarT_4 (s0 s1 s2 s3 : Sl) : wVar 4 (List.map Sl.see (s0 :: s1 :: s2 :: s3 :: .tr t :: r)) n R = R t n := rfl
theorem wVarO_4 (s0 s1 s2 s3 : Sl) : wVar 4 (List.map Sl.see (s0 :: s1 :: s2 :: s3 :: .own t :: r)) n R = R t n := rfl
theorem wVar_5 (s0 s1 s2 s3 s4 : Sl) : wVar 5 (s0 :: s1 :: s2 :: s3 :: s4 :: .tr t :: r) n R = R t n := rfl
theorem wVarT_5 (s0 s1 s2 s3 s4 : Sl) : wVar 5 (List.map Sl.see (s0 :: s1 :: s2 :: s3 :: s4 :: .tr t :: r)) n R = R t n := rfl
theorem wVarO_5 (s0 s1 s2 s3 s4 : Sl) : wVar 5 (List.map Sl.see (s0 :: s1 :: s2 :: s3 :: s4 :: .own t :: r)) n R = R t n := rfl
theorem wVar_6 (s0 s1 s2 s3 s4 s5 : Sl) : wVar 6 (s0 :: s1 :: s2 :: s3 :: s4 :: s5 :: .tr t :: r) n R = R t n := rfl
theorem wVarT_6 (s0 s1 s2 s3 s4 s5 : Sl) : wVar 6 (List.map Sl.see (s0 :: s1 :: s2 :: s3 :: s4 :: s5 :: .tr t :: r)) n R = R t n := rfl
theorem wVarO_6 (s0 s1 s2 s3 s4 s5 : Sl) : wVar 6 (List.map Sl.see (s0 :: s1 :: s2 :: s3 :: s4 :: s5 :: .own t :: r)) n R = R t n := rfl
theorem wVar_7 (s0 s1 s2 s3 s4 s5 s6 : Sl) : wVar 7 (s0 :: s1 :: s2 :: s3 :: s4 :: s5 :: s6 :: .tr t :: r) n R = R t n := rfl
theorem wVarT_7 (s0 s1 s2 s3 s4 s5 s6 : Sl) : wVar 7 (List.map Sl.see (s0 :: s1 :: s2 :: s3 :: s4 :: s5 :: s6 :: .tr t :: r)) n R = R t n := rfl
theorem wVarO_7 (s0 s1 s2 s3 s4 s5 s6 : Sl) : wVar 7 (List.map Sl.see (s0 :: s1 :: s2 :: s3 :: s4 :: s5 :: s6 :: .own t :: r)) n R = R t n := rfl
theorem wVar_8 (s0 s1 s2 s3 s4 s5 s6 s7 : Sl) : wVar 8 (s0 :: s1 :: s2 :: s3 :: s4 :: s5 :: s6 :: s7 :: .tr t :: r) n R = R t n := rfl
theorem wVarT_8 (s0 s1 s2 s3 s4 s5 s6 s7 : Sl) : wVar 8 (List.map Sl.see (s0 :: s1 :: s2 :: s3 :: s4 :: s5 :: s6 :: s7 :: .tr t :: r)) n R = R t n := rfl
theorem wVarO_8 (s0 s1 s2 s3 s4 s5 s6 s7 : Sl) : wVar 8 (List.map Sl.see (s0 :: s1 :: s2 :: s3 :: s4 :: s5 :: s6 :: s7 :: .own t :: r)) n R = R t n := rfl
theorem wVar_9 (s0 s1 s2 s3 s4 s5 s6 s7 s8 : Sl) : wVar 9 (s0 :: s1 :: s2 :: s3 :: s4 :: s5 :: s6 :: s7 :: s8 :: .tr t :: r) n R = R t n := rfl
theorem wVarT_9 (s0 s1 s2 s3 s4 s5 s6 s7 s8 : Sl) : wVar 9 (List.map Sl.see (s0 :: s1 :: s2 :: s3 :: s4 :: s5 :: s6 :: s7 :: s8 :: .tr t :: r)) n R = R t n := rfl
theorem wVarO_9 (s0 s1 s2 s3 s4 s5 s6 s7 s8 : Sl) : wVar 9 (List.map Sl.see (s0 :: s1 :: s2 :: s3 :: s4 :: s5 :: s6 :: s7 :: s8 :: .own t :: r)) n R = R t n := rfl
theorem wVar_10 (s0 s1 s2 s3 s4 s5 s6 s7 s8 s9 : Sl) : wVar 10 (s0 :: s1 :: s2 :: s3 :: s4 :: s5 :: s6 :: s7 :: s8 :: s9 :: .tr t :: r) n R = R t n := rfl
theorem wVarT_10 (s0 s1 s2 s3 s4 s5 s6 s7 s8 s9 : Sl) : wVar 10 (List.map Sl.see (s0 :: s1 :: s2 :: s3 :: s4 :: s5 :: s6 :: s7 :: s8 :: s9 :: .tr t :: r)) n R = R t n := rfl
theorem wVarO_10 (s0 s1 s2 s3 s4 s5 s6 s7 s8 s9 : Sl) : wVar 10 (List.map Sl.see (s0 :: s1 :: s2 :: s3 :: s4 :: s5 :: s6 :: s7 :: s8 :: s9 :: .own t :: r)) n R = R t n := rfl
theorem wVar_11 (s0 s1 s2 s3 s4 s5 s6 s7 s8 s9 s10 : Sl) : wVar 11 (s0 :: s1 :: s2 :: s3 :: s4 :: s5 :: s6 :: s7 :: s8 :: s9 :: s10 :: .tr t :: r) n R = R t n := rfl
theorem wVarT_11 (s0 s1 s2 s3 s4 s5 s6 s7 s8 s9 s10 : Sl) : wVar 11 (List.map Sl.see (s0 :: s1 :: s2 :: s3 :: s4 :: s5 :: s6 :: s7 :: s8 :: s9 :: s10 :: .tr t :: r)) n R = R t n := rfl
theorem wVarO_11 (s0 s1 s2 s3 s4 s5 s6 s7 s8 s9 s10 : Sl) : wVar 11 (List.map Sl.see (s0 :: s1 :: s2 :: s3 :: s4 :: s5 :: s6 :: s7 :: s8 :: s9 :: s10 :: .own t :: r)) n R = R t n := rfl
theorem wVar_12 (s0 s1 s2 s3 s4 s5 s6 s7 s8 s9 s10 s11 : Sl) : wVar 12 (s0 :: s1 :: s2 :: s3 :: s4 :: s5 :: s6 :: s7 :: s8 :: s9 :: s10 :: s11 :: .tr t :: r) n R = R t n := rfl
theorem wVarT_12 (s0 s1 s2 s3 s4 s5 s6 s7 s8 s9 s10 s11 : Sl) : wVar 12 (List.map Sl.see (s0 :: s1 :: s2 :: s3 :: s4 :: s5 :: s6 :: s7 :: s8 :: s9 :: s10 :: s11 :: .tr t :: r)) n R = R t n := rfl
theorem wVarO_12 (s0 s1 s2 s3 s4 s5 s6 s7 s8 s9 s10 s11 : Sl) : wVar 12 (List.map Sl.see (s0 :: s1 :: s2 :: s3 :: s4 :: s5 :: s6 :: s7 :: s8 :: s9 :: s10 :: s11 :: .own t :: r)) n R = R t n := rfl
theorem wVar_13 (s0 s1 s2 s3 s4 s5 s6 s7 s8 s9 s10 s11 s12 : Sl) : wVar 13 (s0 :: s1 :: s2 :: s3 :: s4 :: s5 :: s6 :: s7 :: s8 :: s9 :: s10 :: s11 :: s12 :: .tr t :: r) n R = R t n := rfl
theorem wVarT_13 (s0 s1 s2 s3 s4 s5 s6 s7 s8 s9 s10 s11 s12 : Sl) : wVar 13 (List.map Sl.see (s0 :: s1 :: s2 :: s3 :: s4 :: s5 :: s6 :: s7 :: s8 :: s9 :: s10 :: s11 :: s12 :: .tr t :: r)) n R = R t n := rfl
theorem wVarO_13 (s0 s1 s2 s3 s4 s5 s6 s7 s8 s9 s10 s11 s12 : Sl) : wVar 13 (List.map Sl.see (s0 :: s1 :: s2 :: s3 :: s4 :: s5 :: s6 :: s7 :: s8 :: s9 :: s10 :: s11 :: s12 :: .own t :: r)) n R = R t n := rfl
theorem wVar_14 (s0 s1 s2 s3 s4 s5 s6 s7 s8 s9 s10 s11 s12 s13 : Sl) : wVar 14 (s0 :: s1 :: s2 :: s3 :: s4 :: s5 :: s6 :: s7 :: s8 :: s9 :: s10 :: s11 :: s12 :: s13 :: .tr t :: r) n R = R t n := rfl
theorem wVarT_14 (s0 s1 s2 s3 s4 s5 s6 s7 s8 s9 s10 s11 s12 s13 : Sl) : wVar 14 (List.map Sl.see (s0 :: s1 :: s2 :: s3 :: s4 :: s5 :: s6 :: s7 :: s8 :: s9 :: s10 :: s11 :: s12 :: s13 :: .tr t :: r)) n R = R t n := rfl
theorem wVarO_14 (s0 s1 s2 s3 s4 s5 s6 s7 s8 s9 s10 s11 s12 s13 : Sl) : wVar 14 (List.map Sl.see (s0 :: s1 :: s2 :: s3 :: s4 :: s5 :: s6 :: s7 :: s8 :: s9 :: s10 :: s11 :: s12 :: s13 :: .own t :: r)) n R = R t n := rfl
theorem wVar_15 (s0 s1 s2 s3 s4 s5 s6 s7 s8 s9 s10 s11 s12 s13 s14 : Sl) : wVar 15 (s0 :: s1 :: s2 :: s3 :: s4 :: s5 :: s6 :: s7 :: s8 :: s9 :: s10 :: s11 :: s12 :: s13 :: s14 :: .tr t :: r) n R = R t n := rfl
theorem wVarT_15 (s0 s1 s2 s3 s4 s5 s6 s7 s8 s9 s10 s11 s12 s13 s14 : Sl) : wVar 15 (List.map Sl.see (s0 :: s1 :: s2 :: s3 :: s4 :: s5 :: s6 :: s7 :: s8 :: s9 :: s10 :: s11 :: s12 :: s13 :: s14 :: .tr t :: r)) n R = R t n := rfl
theorem wVarO_15 (s0 s1 s2 s3 s4 s5 s6 s7 s8 s9 s10 s11 s12 s13 s14 : Sl) : wVar 15 (List.map Sl.see (s0 :: s1 :: s2 :: s3 :: s4 :: s5 :: s6 :: s7 :: s8 :: s9 :: s10 :: s11 :: s12 :: s13 :: s14 :: .own t :: r)) n R = R t n := rfl
theorem wVar_16 (s0 s1 s2 s3 s4 s5 s6 s7 s8 s9 s10 s11 s12 s13 s14 s15 : Sl) : wVar 16 (s0 :: s1 :: s2 :: s3 :: s4 :: s5 :: s6 :: s7 :: s8 :: s9 :: s10 :: s11 :: s12 :: s13 :: s14 :: s15 :: .tr t :: r) n R = R t n := rfl
theorem wVarT_16 (s0 s1 s2 s3 s4 s5 s6 s7 s8 s9 s10 s11 s12 s13 s14 s15 : Sl) : wVar 16 (List.map Sl.see (s0 :: s1 :: s2 :: s3 :: s4 :: s5 :: s6 :: s7 :: s8 :: s9 :: s10 :: s11 :: s12 :: s13 :: s14 :: s15 :: .tr t :: r)) n R = R t n := rfl
theorem wVarO_16 (s0 s1 s2 s3 s4 s5 s6 s7 s8 s9 s10 s11 s12 s13 s14 s15 : Sl) : wVar 16 (List.map Sl.see (s0 :: s1 :: s2 :: s3 :: s4 :: s5 :: s6 :: s7 :: s8 :: s9 :: s10 :: s11 :: s12 :: s13 :: s14 :: s15 :: .own t :: r)) n R = R t n := rfl
theorem wVar_17 (s0 s1 s2 s3 s4 s5 s6 s7 s8 s9 s10 s11 s12 s13 s14 s15 s16 : Sl) : wVar 17 (s0 :: s1 :: s2 :: s3 :: s4 :: s5 :: s6 :: s7 :: s8 :: s9 :: s10 :: s11 :: s12 :: s13 :: s14 :: s15 :: s16 :: .tr t :: r) n R = R t n := rfl
theorem wVarT_17 (s0 s1 s2 s3 s4 s5 s6 s7 s8 s9 s10 s11 s12 s13 s14 s15 s16 : Sl) : wVar 17 (List.map Sl.see (s0 :: s1 :: s2 :: s3 :: s4 :: s5 :: s6 :: s7 :: s8 :: s9 :: s10 :: s11 :: s12 :: s13 :: s14 :: s15 :: s16 :: .tr t :: r)) n R = R t n := rfl
theorem wVarO_17 (s0 s1 s2 s3 s4 s5 s6 s7 s8 s9 s10 s11 s12 s13 s14 s15 s16 : Sl) : wVar 17 (List.map Sl.see (s0 :: s1 :: s2 :: s3 :: s4 :: s5 :: s6 :: s7 :: s8 :: s9 :: s10 :: s11 :: s12 :: s13 :: s14 :: s15 :: s16 :: .own t :: r)) n R = R t n := rfl
theorem wVar_18 (s0 s1 s2 s3 s4 s5 s6 s7 s8 s9 s10 s11 s12 s13 s14 s15 s16 s17 : Sl) : wVar 18 (s0 :: s1 :: s2 :: s3 :: s4 :: s5 :: s6 :: s7 :: s8 :: s9 :: s10 :: s11 :: s12 :: s13 :: s14 :: s15 :: s16 :: s17 :: .tr t :: r) n R = R t n := rfl
theorem wVarT_18 (s0 s1 s2 s3 s4 s5 s6 s7 s8 s9 s10 s11 s12 s13 s14 s15 s16 s17 : Sl) : wVar 18 (List.map Sl.see (s0 :: s1 :: s2 :: s3 :: s4 :: s5 :: s6 :: s7 :: s8 :: s9 :: s10 :: s11 :: s12 :: s13 :: s14 :: s15 :: s16 :: s17 :: .tr t :: r)) n R = R t n := rfl
theorem wVarO_18 (s0 s1 s2 s3 s4 s5 s6 s7 s8 s9 s10 s11 s12 s13 s14 s15 s16 s17 : Sl) : wVar 18 (List.map Sl.see (s0 :: s1 :: s2 :: s3 :: s4 :: s5 :: s6 :: s7 :: s8 :: s9 :: s10 :: s11 :: s12 :: s13 :: s14 :: s15 :: s16 :: s17 :: .own t :: r)) n R = R t n := rfl
theorem wVar_19 (s0 s1 s2 s3 s4 s5 s6 s7 s8 s9 s10 s11 s12 s13 s14 s15 s16 s17 s18 : Sl) : wVar 19 (s0 :: s1 :: s2 :: s3 :: s4 :: s5 :: s6 :: s7 :: s8 :: s9 :: s10 :: s11 :: s12 :: s13 :: s14 :: s15 :: s16 :: s17 :: s18 :: .tr t :: r) n R = R t n := rfl
theorem wVarT_19 (s0 s1 s2 s3 s4 s5 s6 s7 s8 s9 s10 s11 s12 s13 s14 s15 s16 s17 s18 : Sl) : wVar 19 (List.map Sl.see (s0 :: s1 :: s2 :: s3 :: s4 :: s5 :: s6 :: s7 :: s8 :: s9 :: s10 :: s11 :: s12 :: s13 :: s14 :: s15 :: s16 :: s17 :: s18 :: .tr t :: r)) n R = R t n := rfl
theorem wVarO_19 (s0 s1 s2 s3 s4 s5 s6 s7 s8 s9 s10 s11 s12 s13 s14 s15 s16 s17 s18 : Sl) : wVar 19 (List.map Sl.see (s0 :: s1 :: s2 :: s3 :: s4 :: s5 :: s6 :: s7 :: s8 :: s9 :: s10 :: s11 :: s12 :: s13 :: s14 :: s15 :: s16 :: s17 :: s18 :: .own t :: r)) n R = R t n := rfl
end
section
variable (f : WE) (g : G2) (W : WEnds) (n : Nat) (x : T) (xs : List T) (r : Env) (s : Sl) (Q : Env → Nat → Prop)
theorem wsAug_0 : wsAug 0 f g W (.tr x :: r) n = f (.tr x :: r) n fun y n1 => g x y fun z => W.nx (.tr z :: r) n1 := rfl
theorem wsApp_0 : wsApp 0 f W (.own (.lst xs) :: r) n = f (.own (.lst xs) :: r) n fun y n1 => xs.length < sizeLine ∧ W.nx (.own (.lst (xs ++ [y])) :: r) n1 := rfl
theorem wsSet_0 : wsSet 0 f W (s :: r) n = f (s :: r) n fun y n1 => W.nx (.tr y :: r) n1 := rfl
theorem wsOwn_0 : wsOwn 0 f W (s :: r) n = f (s :: r) n fun y n1 => W.nx (.own y :: r) n1 := rfl
theorem wgName_0 : wgName 0 x (s :: r) n Q = Q (.tr x :: r) n := rfl
theorem wsAug_1 (s0 : Sl) : wsAug 1 f g W (s0 :: .tr x :: r) n = f (s0 :: .tr x :: r) n fun y n1 => g x y fun z => W.nx (s0 :: .tr z :: r) n1 := rfl
theorem wsApp_1 (s0 : Sl) : wsApp 1 f W (s0 :: .own (.lst xs) :: r) n = f (s0 :: .own (.lst xs) :: r) n fun y n1 => xs.length < sizeLine ∧ W.nx (s0 :: .own (.lst (xs ++ [y])) :: r) n1 := rfl
theorem wsSet_1 (s0 : Sl) : wsSet 1 f W (s0 :: s :: r) n = f (s0 :: s :: r) n fun y n1 => W.nx (s0 :: .tr y :: r) n1 := rfl
theorem wsOwn_1 (s0 : Sl) : wsOwn 1 f W (s0 :: s :: r) n = f (s0 :: s :: r) n fun y n1 => W.nx (s0 :: .own y :: r) n1 := rfl
theorem wgName_1 (s0 : Sl) : wgName 1 x (s0 :: s :: r) n Q = Q (s0 :: .tr x :: r) n := rfl
theorem wsAug_2 (s0 s1 : Sl) : wsAug 2 f g W (s0 :: s1 :: .tr x :: r) n = f (s0 :: s1 :: .tr x :: r) n fun y n1 => g x y fun z => W.nx (s0 :: s1 :: .tr z :: r) n1 := rfl
theorem wsApp_2 (s0 s1 : Sl) : wsApp 2 f W (s0 :: s1 :: .own (.lst xs) :: r) n = f (s0 :: s1 :: .own (.lst xs) :: r) n fun y n1 => xs.length < sizeLine ∧ W.nx (s0 :: s1 :: .own (.lst (xs ++ [y])) :: r) n1 := rfl
theorem wsSet_2 (s0 s1 : Sl) : wsSet 2 f W (s0 :: s1 :: s :: r) n = f (s0 :: s1 :: s :: r) n fun y n1 => W.nx (s0 :: s1 :: .tr y :: r) n1 := rfl
theorem wsOwn_2 (s0 s1 : Sl) : wsOwn 2 f W (s0 :: s1 :: s :: r) n = f (s0 :: s1 :: s :: r) n fun y n1 => W.nx (s0 :: s1 :: .own y :: r) n1 := rfl
theorem wgName_2 (s0 s1 : Sl) : wgName 2 x (s0 :: s1 :: s :: r) n Q = Q (s0 :: s1 :: .tr x :: r) n := rfl
theorem wsAug_3 (s0 s1 s2 : Sl) : wsAug 3 f g W (s0 :: s1 :: s2 :: .tr x :: r) n = f (s0 :: s1 :: s2 :: .tr x :: r) n fun y n1 => g x y fun z => W.nx (s0 :: s1 :: s2 :: .tr z :: r) n1 := rfl
theorem wsApp_3 (s0 s1 s2 : Sl) : wsApp 3 f W (s0 :: s1 :: s2 :: .own (.lst xs) :: r) n = f (s0 :: s1 :: s2 :: .own (.lst xs) :: r) n fun y n1 => xs.length < sizeLine ∧ W.nx (s0 :: s1 :: s2 :: .own (.lst (xs ++ [y])) :: r) n1 := rfl
theorem wsSet_3 (s0 s1 s2 : Sl) : wsSet 3 f W (s0 :: s1 :: s2 :: s :: r) n = f (s0 :: s1 :: s2 :: s :: r) n fun y n1 => W.nx (s0 :: s1 :: s2 :: .tr y :: r) n1 := rfl
theorem wsOwn_3 (s0 s1 s2 : Sl) : wsOwn 3 f W (s0 :: s1 :: s2 :: s :: r) n = f (s0 :: s1 :: s2 :: s :: r) n fun y n1 => W.nx (s0 :: s1 :: s2 :: .own y :: r) n1 := rfl
theorem wgName_3 (s0 s1 s2 : Sl) : wgName 3 x (s0 :: s1 :: s2 :: s :: r) n Q = Q (s0 :: s1 :: s2 :: .tr x :: r) n := rfl
theorem wsAug_4 (s0 s1 s2 s3 : Sl) : wsAug 4 f g W (s0 :: s1 :: s2 :: s3 :: .tr x :: r) n = f (s0 :: s1 :: s2 :: s3 :: .tr x :: r) n fun y n1 => g x y fun z => W.nx (s0 :: s1 :: s2 :: s3 :: .tr z :: r) n1 := rfl
theorem wsApp_4 (s0 s1 s2 s3 : Sl) : wsApp 4 f W (s0 :: s1 :: s2 :: s3 :: .own (.lst xs) :: r) n = f (s0 :: s1 :: s2 :: s3 :: .own (.lst xs) :: r) n fun y n1 => xs.length < sizeLine ∧ W.nx (s0 :: s1 :: s2 :: s3 :: .own (.lst (xs ++ [y])) :: r) n1 := rfl
theorem wsSet_4 (s0 s1 s2 s3 : Sl) : wsSet 4 f W (s0 :: s1 :: s2 :: s3 :: s :: r) n = f (s0 :: s1 :: s2 :: s3 :: s :: r) n fun y n1 => W.nx (s0 :: s1 :: s2 :: s3 :: .tr y :: r) n1 := rfl
theorem wsOwn_4 (s0 s1 s2 s3 : Sl) : wsOwn 4 f W (s0 :: s1 :: s2 :: s3 :: s :: r) n = f (s0 :: s1 :: s2 :: s3 :: s :: r) n fun y n1 => W.nx (s0 :: s1 :: s2 :: s3 :: .own y :: r) n1 := rfl
theorem wgName_4 (s0 s1 s2 s3 : Sl) : wgName 4 x (s0 :: s1 :: s2 :: s3 :: s :: r) n Q = Q (s0 :: s1 :: s2 :: s3 :: .tr x :: r) n := rfl
theorem wsAug_5 (s0 s1 s2 s3 s4 : Sl) : wsAug 5 f g W (s0 :: s1 :: s2 :: s3 :: s4 :: .tr x :: r) n = f (s0 :: s1 :: s2 :: s3 :: s4 :: .tr x :: r) n fun y n1 => g x y fun z => W.nx (s0 :: s1 :: s2 :: s3 :: s4 :: .tr z :: r) n1 := rfl
theorem wsApp_5 (s0 s1 s2 s3 s4 : Sl) : wsApp 5 f W (s0 :: s1 :: s2 :: s3 :: s4 :: .own (.lst xs) :: r) n = f (s0 :: s1 :: s2 :: s3 :: s4 :: .own (.lst xs) :: r) n fun y n1 => xs.length < sizeLine ∧ W.nx (s0 :: s1 :: s2 :: s3 :: s4 :: .own (.lst (xs ++ [y])) :: r) n1 := rfl
theorem wsSet_5 (s0 s1 s2 s3 s4 : Sl) : wsSet 5 f W (s0 :: s1 :: s2 :: s3 :: s4 :: s :: r) n = f (s0 :: s1 :: s2 :: s3 :: s4 :: s :: r) n fun y n1 => W.nx (s0 :: s1 :: s2 :: s3 :: s4 :: .tr y :: r) n1 := rfl
theorem wsOwn_5 (s0 s1 s2 s3 s4 : Sl) : wsOwn 5 f W (s0 :: s1 :: s2 :: s3 :: s4 :: s :: r) n = f (s0 :: s1 :: s2 :: s3 :: s4 :: s :: r) n fun y n1 => W.nx (s0 :: s1 :: s2 :: s3 :: s4 :: .own y :: r) n1 := rfl
theorem wgName_5 (s0 s1 s2 s3 s4 : Sl) : wgName 5 x (s0 :: s1 :: s2 :: s3 :: s4 :: s :: r) n Q = Q (s0 :: s1 :: s2 :: s3 :: s4 :: .tr x :: r) n := rfl
theorem wsAug_6 (s0 s1 s2 s3 s4 s5 : Sl) : wsAug 6 f g W (s0 :: s1 :: s2 :: s3 :: s4 :: s5 :: .tr x :: r) n = f (s0 :: s1 :: s2 :: s3 :: s4 :: s5 :: .tr x :: r) n fun y n1 => g x y fun z => W.nx (s0 :: s1 :: s2 :: s3 :: s4 :: s5 :: .tr z :: r) n1 := rfl
theorem wsApp_6 (s0 s1 s2 s3 s4 s5 : Sl) : wsApp 6 f W (s0 :: s1 :: s2 :: s3 :: s4 :: s5 :: .own (.lst xs) :: r) n = f (s0 :: s1 :: s2 :: s3 :: s4 :: s5 :: .own (.lst xs) :: r) n fun y n1 => xs.length < sizeLine ∧ W.nx (s0 :: s1 :: s2 :: s3 :: s4 :: s5 :: .own (.lst (xs ++ [y])) :: r) n1 := rfl
theorem wsSet_6 (s0 s1 s2 s3 s4 s5 : Sl) : wsSet 6 f W (s0 :: s1 :: s2 :: s3 :: s4 :: s5 :: s :: r) n = f (s0 :: s1 :: s2 :: s3 :: s4 :: s5 :: s :: r) n fun y n1 => W.nx (s0 :: s1 :: s2 :: s3 :: s4 :: s5 :: .tr y :: r) n1 := rfl
theorem wsOwn_6 (s0 s1 s2 s3 s4 s5 : Sl) : wsOwn 6 f W (s0 :: s1 :: s2 :: s3 :: s4 :: s5 :: s :: r) n = f (s0 :: s1 :: s2 :: s3 :: s4 :: s5 :: s :: r) n fun y n1 => W.nx (s0 :: s1 :: s2 :: s3 :: s4 :: s5 :: .own y :: r) n1 := rfl
theorem wgName_6 (s0 s1 s2 s3 s4 s5 : Sl) : wgName 6 x (s0 :: s1 :: s2 :: s3 :: s4 :: s5 :: s :: r) n Q = Q (s0 :: s1 :: s2 :: s3 :: s4 :: s5 :: .tr x :: r) n := rfl
theorem wsAug_7 (s0 s1 s2 s3 s4 s5 s6 : Sl) : wsAug 7 f g W (s0 :: s1 :: s2 :: s3 :: s4 :: s5 :: s6 :: .tr x :: r) n = f (s0 :: s1 :: s2 :: s3 :: s4 :: s5 :: s6 :: .tr x :: r) n fun y n1 => g x y fun z => W.nx (s0 :: s1 :: s2 :: s3 :: s4 :: s5 :: s6 :: .tr z :: r) n1 := rfl
theorem wsApp_7 (s0 s1 s2 s3 s4 s5 s6 : Sl) : wsApp 7 f W (s0 :: s1 :: s2 :: s3 :: s4 :: s5 :: s6 :: .own (.lst xs) :: r) n = f (s0 :: s1 :: s2 :: s3 :: s4 :: s5 :: s6 :: .own (.lst xs) :: r) n fun y n1 => xs.length < sizeLine ∧ W.nx (s0 :: s1 :: s2 :: s3 :: s4 :: s5 :: s6 :: .own (.lst (xs ++ [y])) :: r) n1 := rfl
theorem wsSet_7 (s0 s1 s2 s3 s4 s5 s6 : Sl) : wsSet 7 f W (s0 :: s1 :: s2 :: s3 :: s4 :: s5 :: s6 :: s :: r) n = f (s0 :: s1 :: s2 :: s3 :: s4 :: s5 :: s6 :: s :: r) n fun y n1 => W.nx (s0 :: s1 :: s2 :: s3 :: s4 :: s5 :: s6 :: .tr y :: r) n1 := rfl
theorem wsOwn_7 (s0 s1 s2 s3 s4 s5 s6 : Sl) : wsOwn 7 f W (s0 :: s1 :: s2 :: s3 :: s4 :: s5 :: s6 :: s :: r) n = f (s0 :: s1 :: s2 :: s3 :: s4 :: s5 :: s6 :: s :: r) n fun y n1 => W.nx (s0 :: s1 :: s2 :: s3 :: s4 :: s5 :: s6 :: .own y :: r) n1 := rfl
theorem wgName_7 (s0 s1 s2 s3 s4 s5 s6 : Sl) : wgName 7 x (s0 :: s1 :: s2 :: s3 :: s4 :: s5 :: s6 :: s :: r) n Q = Q (s0 :: s1 :: s2 :: s3 :: s4 :: s5 :: s6 :: .tr x :: r) n := rfl
theorem wsAug_8 (s0 s1 s2 s3 s4 s5 s6 s7 : Sl) : wsAug 8 f g W (s0 :: s1 :: s2 :: s3 :: s4 :: s5 :: s6 :: s7 :: .tr x :: r) n = f (s0 :: s1 :: s2 :: s3 :: s4 :: s5 :: s6 :: s7 :: .tr x :: r) n fun y n1 => g x y fun z => W.nx (s0 :: s1 :: s2 :: s3 :: s4 :: s5 :: s6 :: s7 :: .tr z :: r) n1 := rfl
theorem wsApp_8 (s0 s1 s2 s3 s4 s5 s6 s7 : Sl) : wsApp 8 f W (s0 :: s1 :: s2 :: s3 :: s4 :: s5 :: s6 :: s7 :: .own (.lst xs) :: r) n = f (s0 :: s1 :: s2 :: s3 :: s4 :: s5 :: s6 :: s7 :: .own (.lst xs) :: r) n fun y n1 => xs.length < sizeLine ∧ W.nx (s0 :: s1 :: s2 :: s3 :: s4 :: s5 :: s6 :: s7 :: .own (.lst (xs ++ [y])) :: r) n1 := rfl
theorem wsSet_8 (s0 s1 s2 s3 s4 s5 s6 s7 : Sl) : wsSet 8 f W (s0 :: s1 :: s2 :: s3 :: s4 :: s5 :: s6 :: s7 :: s :: r) n = f (s0 :: s1 :: s2 :: s3 :: s4 :: s5 :: s6 :: s7 :: s :: r) n fun y n1 => W.nx (s0 :: s1 :: s2 :: s3 :: s4 :: s5 :: s6 :: s7 :: .tr y :: r) n1 := rfl
theorem wsOwn_8 (s0 s1 s2 s3 s4 s5 s6 s7 : Sl) : wsOwn 8 f W (s0 :: s1 :: s2 :: s3 :: s4 :: s5 :: s6 :: s7 :: s :: r) n = f (s0 :: s1 :: s2 :: s3 :: s4 :: s5 :: s6 :: s7 :: s :: r) n fun y n1 => W.nx (s0 :: s1 :: s2 :: s3 :: s4 :: s5 :: s6 :: s7 :: .own y :: r) n1 := rfl
theorem wgName_8 (s0 s1 s2 s3 s4 s5 s6 s7 : Sl) : wgName 8 x (s0 :: s1 :: s2 :: s3 :: s4 :: s5 :: s6 :: s7 :: s :: r) n Q = Q (s0 :: s1 :: s2 :: s3 :: s4 :: s5 :: s6 :: s7 :: .tr x :: r) n := rfl
theorem wsAug_9 (s0 s1 s2 s3 s4 s5 s6 s7 s8 : Sl) : wsAug 9 f g W (s0 :: s1 :: s2 :: s3 :: s4 :: s5 :: s6 :: s7 :: s8 :: .tr x :: r) n = f (s0 :: s1 :: s2 :: s3 :: s4 :: s5 :: s6 :: s7 :: s8 :: .tr x :: r) n fun y n1 => g x y fun z => W.nx (s0 :: s1 :: s2 :: s3 :: s4 :: s5 :: s6 :: s7 :: s8 :: .tr z :: r) n1 := rfl
theorem wsApp_9 (s0 s1 s2 s3 s4 s5 s6 s7 s8 : Sl) : wsApp 9 f W (s0 :: s1 :: s2 :: s3 :: s4 :: s5 :: s6 :: s7 :: s8 :: .own (.lst xs) :: r) n = f (s0 :: s1 :: s2 :: s3 :: s4 :: s5 :: s6 :: s7 :: s8 :: .own (.lst xs) :: r) n fun y n1 => xs.length < sizeLine ∧ W.nx (s0 :: s1 :: s2 :: s3 :: s4 :: s5 :: s6 :: s7 :: s8 :: .own (.lst (xs ++ [y])) :: r) n1 := rfl
theorem wsSet_9 (s0 s1 s2 s3 s4 s5 s6 s7 s8 : Sl) : wsSet 9 f W (s0 :: s1 :: s2 :: s3 :: s4 :: s5 :: s6 :: s7 :: s8 :: s :: r) n = f (s0 :: s1 :: s2 :: s3 :: s4 :: s5 :: s6 :: s7 :: s8 :: s :: r) n fun y n1 => W.nx (s0 :: s1 :: s2 :: s3 :: s4 :: s5 :: s6 :: s7 :: s8 :: .tr y :: r) n1 := rfl
theorem wsOwn_9 (s0 s1 s2 s3 s4 s5 s6 s7 s8 : Sl) : wsOwn 9 f W (s0 :: s1 :: s2 :: s3 :: s4 :: s5 :: s6 :: s7 :: s8 :: s :: r) n = f (s0 :: s1 :: s2 :: s3 :: s4 :: s5 :: s6 :: s7 :: s8 :: s :: r) n fun y n1 => W.nx (s0 :: s1 :: s2 :: s3 :: s4 :: s5 :: s6 :: s7 :: s8 :: .own y :: r) n1 := rfl
theorem wgName_9 (s0 s1 s2 s3 s4 s5 s6 s7 s8 : Sl) : wgName 9 x (s0 :: s1 :: s2 :: s3 :: s4 :: s5 :: s6 :: s7 :: s8 :: s :: r) n Q = Q (s0 :: s1 :: s2 :: s3 :: s4 :: s5 :: s6 :: s7 :: s8 :: .tr x :: r) n := rfl
theorem wsAug_10 (s0 s1 s2 s3 s4 s5 s6 s7 s8 s9 : Sl) : wsAug 10 f g W (s0 :: s1 :: s2 :: s3 :: s4 :: s5 :: s6 :: s7 :: s8 :: s9 :: .tr x :: r) n = f (s0 :: s1 :: s2 :: s3 :: s4 :: s5 :: s6 :: s7 :: s8 :: s9 :: .tr x :: r) n fun y n1 => g x y fun z => W.nx (s0 :: s1 :: s2 :: s3 :: s4 :: s5 :: s6 :: s7 :: s8 :: s9 :: .tr z :: r) n1 := rfl
theorem wsApp_10 (s0 s1 s2 s3 s4 s5 s6 s7 s8 s9 : Sl) : wsApp 10 f W (s0 :: s1 :: s2 :: s3 :: s4 :: s5 :: s6 :: s7 :: s8 :: s9 :: .own (.lst xs) :: r) n = f (s0 :: s1 :: s2 :: s3 :: s4 :: s5 :: s6 :: s7 :: s8 :: s9 :: .own (.lst xs) :: r) n fun y n1 => xs.length < sizeLine ∧ W.nx (s0 :: s1 :: s2 :: s3 :: s4 :: s5 :: s6 :: s7 :: s8 :: s9 :: .own (.lst (xs ++ [y])) :: r) n1 := rfl
theorem wsSet_10 (s0 s1 s2 s3 s4 s5 s6 s7 s8 s9 : Sl) : wsSet 10 f W (s0 :: s1 :: s2 :: s3 :: s4 :: s5 :: s6 :: s7 :: s8 :: s9 :: s :: r) n = f (s0 :: s1 :: s2 :: s3 :: s4 :: s5 :: s6 :: s7 :: s8 :: s9 :: s :: r) n fun y n1 => W.nx (s0 :: s1 :: s2 :: s3 :: s4 :: s5 :: s6 :: s7 :: s8 :: s9 :: .tr y :: r) n1 := rfl
theorem wsOwn_10 (s0 s1 s2 s3 s4 s5 s6 s7 s8 s9 : Sl) : wsOwn 10 f W (s0 :: s1 :: s2 :: s3 :: s4 :: s5 :: s6 :: s7 :: s8 :: s9 :: s :: r) n = f (s0 :: s1 :: s2 :: s3 :: s4 :: s5 :: s6 :: s7 :: s8 :: s9 :: s :: r) n fun y n1 => W.nx (s0 :: s1 :: s2 :: s3 :: s4 :: s5 :: s6 :: s7 :: s8 :: s9 :: .own y :: r) n1 := rfl
theorem wgName_10 (s0 s1 s2 s3 s4 s5 s6 s7 s8 s9 : Sl) : wgName 10 x (s0 :: s1 :: s2 :: s3 :: s4 :: s5 :: s6 :: s7 :: s8 :: s9 :: s :: r) n Q = Q (s0 :: s1 :: s2 :: s3 :: s4 :: s5 :: s6 :: s7 :: s8 :: s9 :: .tr x :: r) n := rfl
theorem wsAug_11 (s0 s1 s2 s3 s4 s5 s6 s7 s8 s9 s10 : Sl) : wsAug 11 f g W (s0 :: s1 :: s2 :: s3 :: s4 :: s5 :: s6 :: s7 :: s8 :: s9 :: s10 :: .tr x :: r) n = f (s0 :: s1 :: s2 :: s3 :: s4 :: s5 :: s6 :: s7 :: s8 :: s9 :: s10 :: .tr x :: r) n fun y n1 => g x y fun z => W.nx (s0 :: s1 :: s2 :: s3 :: s4 :: s5 :: s6 :: s7 :: s8 :: s9 :: s10 :: .tr z :: r) n1 := rfl
theorem wsApp_11 (s0 s1 s2 s3 s4 s5 s6 s7 s8 s9 s10 : Sl) : wsApp 11 f W (s0 :: s1 :: s2 :: s3 :: s4 :: s5 :: s6 :: s7 :: s8 :: s9 :: s10 :: .own (.lst xs) :: r) n = f (s0 :: s1 :: s2 :: s3 :: s4 :: s5 :: s6 :: s7 :: s8 :: s9 :: s10 :: .own (.lst xs) :: r) n fun y n1 => xs.length < sizeLine ∧ W.nx (s0 :: s1 :: s2 :: s3 :: s4 :: s5 :: s6 :: s7 :: s8 :: s9 :: s10 :: .own (.lst (xs ++ [y])) :: r) n1 := rfl
theorem wsSet_11 (s0 s1 s2 s3 s4 s5 s6 s7 s8 s9 s10 : Sl) : wsSet 11 f W (s0 :: s1 :: s2 :: s3 :: s4 :: s5 :: s6 :: s7 :: s8 :: s9 :: s10 :: s :: r) n = f (s0 :: s1 :: s2 :: s3 :: s4 :: s5 :: s6 :: s7 :: s8 :: s9 :: s10 :: s :: r) n fun y n1 => W.nx (s0 :: s1 :: s2 :: s3 :: s4 :: s5 :: s6 :: s7 :: s8 :: s9 :: s10 :: .tr y :: r) n1 := rfl
theorem wsOwn_11 (s0 s1 s2 s3 s4 s5 s6 s7 s8 s9 s10 : Sl) : wsOwn 11 f W (s0 :: s1 :: s2 :: s3 :: s4 :: s5 :: s6 :: s7 :: s8 :: s9 :: s10 :: s :: r) n = f (s0 :: s1 :: s2 :: s3 :: s4 :: s5 :: s6 :: s7 :: s8 :: s9 :: s10 :: s :: r) n fun y n1 => W.nx (s0 :: s1 :: s2 :: s3 :: s4 :: s5 :: s6 :: s7 :: s8 :: s9 :: s10 :: .own y :: r) n1 := rfl
theorem wgName_11 (s0 s1 s2 s3 s4 s5 s6 s7 s8 s9 s10 : Sl) : wgName 11 x (s0 :: s1 :: s2 :: s3 :: s4 :: s5 :: s6 :: s7 :: s8 :: s9 :: s10 :: s :: r) n Q = Q (s0 :: s1 :: s2 :: s3 :: s4 :: s5 :: s6 :: s7 :: s8 :: s9 :: s10 :: .tr x :: r) n := rfl
theorem wsAug_12 (s0 s1 s2 s3 s4 s5 s6 s7 s8 s9 s10 s11 : Sl) : wsAug 12 f g W (s0 :: s1 :: s2 :: s3 :: s4 :: s5 :: s6 :: s7 :: s8 :: s9 :: s10 :: s11 :: .tr x :: r) n = f (s0 :: s1 :: s2 :: s3 :: s4 :: s5 :: s6 :: s7 :: s8 :: s9 :: s10 :: s11 :: .tr x :: r) n fun y n1 => g x y fun z => W.nx (s0 :: s1 :: s2 :: s3 :: s4 :: s5 :: s6 :: s7 :: s8 :: s9 :: s10 :: s11 :: .tr z :: r) n1 := rfl
theorem wsApp_12 (s0 s1 s2 s3 s4 s5 s6 s7 s8 s9 s10 s11 : Sl) : wsApp 12 f W (s0 :: s1 :: s2 :: s3 :: s4 :: s5 :: s6 :: s7 :: s8 :: s9 :: s10 :: s11 :: .own (.lst xs) :: r) n = f (s0 :: s1 :: s2 :: s3 :: s4 :: s5 :: s6 :: s7 :: s8 :: s9 :: s10 :: s11 :: .own (.lst xs) :: r) n fun y n1 => xs.length < sizeLine ∧ W.nx (s0 :: s1 :: s2 :: s3 :: s4 :: s5 :: s6 :: s7 :: s8 :: s9 :: s10 :: s11 :: .own (.lst (xs ++ [y])) :: r) n1 := rfl
theorem wsSet_12 (s0 s1 s2 s3 s4 s5 s6 s7 s8 s9 s10 s11 : Sl) : wsSet 12 f W (s0 :: s1 :: s2 :: s3 :: s4 :: s5 :: s6 :: s7 :: s8 :: s9 :: s10 :: s11 :: s :: r) n = f (s0 :: s1 :: s2 :: s3 :: s4 :: s5 :: s6 :: s7 :: s8 :: s9 :: s10 :: s11 :: s :: r) n fun y n1 => W.nx (s0 :: s1 :: s2 :: s3 :: s4 :: s5 :: s6 :: s7 :: s8 :: s9 :: s10 :: s11 :: .tr y :: r) n1 := rfl
theorem wsOwn_12 (s0 s1 s2 s3 s4 s5 s6 s7 s8 s9 s10 s11 : Sl) : wsOwn 12 f W (s0 :: s1 :: s2 :: s3 :: s4 :: s5 :: s6 :: s7 :: s8 :: s9 :: s10 :: s11 :: s :: r) n = f (s0 :: s1 :: s2 :: s3 :: s4 :: s5 :: s6 :: s7 :: s8 :: s9 :: s10 :: s11 :: s :: r) n fun y n1 => W.nx (s0 :: s1 :: s2 :: s3 :: s4 :: s5 :: s6 :: s7 :: s8 :: s9 :: s10 :: s11 :: .own y :: r) n1 := rfl
theorem wgName_12 (s0 s1 s2 s3 s4 s5 s6 s7 s8 s9 s10 s11 : Sl) : wgName 12 x (s0 :: s1 :: s2 :: s3 :: s4 :: s5 :: s6 :: s7 :: s8 :: s9 :: s10 :: s11 :: s :: r) n Q = Q (s0 :: s1 :: s2 :: s3 :: s4 :: s5 :: s6 :: s7 :: s8 :: s9 :: s10 :: s11 :: .tr x :: r) n := rfl
theorem wsAug_13 (s0 s1 s2 s3 s4 s5 s6 s7 s8 s9 s10 s11 s12 : Sl) : wsAug 13 f g W (s0 :: s1 :: s2 :: s3 :: s4 :: s5 :: s6 :: s7 :: s8 :: s9 :: s10 :: s11 :: s12 :: .tr x :: r) n = f (s0 :: s1 :: s2 :: s3 :: s4 :: s5 :: s6 :: s7 :: s8 :: s9 :: s10 :: s11 :: s12 :: .tr x :: r) n fun y n1 => g x y fun z => W.nx (s0 :: s1 :: s2 :: s3 :: s4 :: s5 :: s6 :: s7 :: s8 :: s9 :: s10 :: s11 :: s12 :: .tr z :: r) n1 := rfl
theorem wsApp_13 (s0 s1 s2 s3 s4 s5 s6 s7 s8 s9 s10 s11 s12 : Sl) : wsApp 13 f W (s0 :: s1 :: s2 :: s3 :: s4 :: s5 :: s6 :: s7 :: s8 :: s9 :: s10 :: s11 :: s12 :: .own (.lst xs) :: r) n = f (s0 :: s1 :: s2 :: s3 :: s4 :: s5 :: s6 :: s7 :: s8 :: s9 :: s10 :: s11 :: s12 :: .own (.lst xs) :: r) n fun y n1 => xs.length < sizeLine ∧ W.nx (s0 :: s1 :: s2 :: s3 :: s4 :: s5 :: s6 :: s7 :: s8 :: s9 :: s10 :: s11 :: s12 :: .own (.lst (xs ++ [y])) :: r) n1 := rfl
theorem wsSet_13 (s0 s1 s2 s3 s4 s5 s6 s7 s8 s9 s10 s11 s12 : Sl) : wsSet 13 f W (s0 :: s1 :: s2 :: s3 :: s4 :: s5 :: s6 :: s7 :: s8 :: s9 :: s10 :: s11 :: s12 :: s :: r) n = f (s0 :: s1 :: s2 :: s3 :: s4 :: s5 :: s6 :: s7 :: s8 :: s9 :: s10 :: s11 :: s12 :: s :: r) n fun y n1 => W.nx (s0 :: s1 :: s2 :: s3 :: s4 :: s5 :: s6 :: s7 :: s8 :: s9 :: s10 :: s11 :: s12 :: .tr y :: r) n1 := rfl
theorem wsOwn_13 (s0 s1 s2 s3 s4 s5 s6 s7 s8 s9 s10 s11 s12 : Sl) : wsOwn 13 f W (s0 :: s1 :: s2 :: s3 :: s4 :: s5 :: s6 :: s7 :: s8 :: s9 :: s10 :: s11 :: s12 :: s :: r) n = f (s0 :: s1 :: s2 :: s3 :: s4 :: s5 :: s6 :: s7 :: s8 :: s9 :: s10 :: s11 :: s12 :: s :: r) n fun y n1 => W.nx (s0 :: s1 :: s2 :: s3 :: s4 :: s5 :: s6 :: s7 :: s8 :: s9 :: s10 :: s11 :: s12 :: .own y :: r) n1 := rfl
theorem wgName_13 (s0 s1 s2 s3 s4 s5 s6 s7 s8 s9 s10 s11 s12 : Sl) : wgName 13 x (s0 :: s1 :: s2 :: s3 :: s4 :: s5 :: s6 :: s7 :: s8 :: s9 :: s10 :: s11 :: s12 :: s :: r) n Q = Q (s0 :: s1 :: s2 :: s3 :: s4 :: s5 :: s6 :: s7 :: s8 :: s9 :: s10 :: s11 :: s12 :: .tr x :: r) n := rfl
theorem wsAug_14 (s0 s1 s2 s3 s4 s5 s6 s7 s8 s9 s10 s11 s12 s13 : Sl) : wsAug 14 f g W (s0 :: s1 :: s2 :: s3 :: s4 :: s5 :: s6 :: s7 :: s8 :: s9 :: s10 :: s11 :: s12 :: s13 :: .tr x :: r) n = f (s0 :: s1 :: s2 :: s3 :: s4 :: s5 :: s6 :: s7 :: s8 :: s9 :: s10 :: s11 :: s12 :: s13 :: .tr x :: r) n fun y n1 => g x y fun z => W.nx (s0 :: s1 :: s2 :: s3 :: s4 :: s5 :: s6 :: s7 :: s8 :: s9 :: s10 :: s11 :: s12 :: s13 :: .tr z :: r) n1 := rfl
theorem wsApp_14 (s0 s1 s2 s3 s4 s5 s6 s7 s8 s9 s10 s11 s12 s13 : Sl) : wsApp 14 f W (s0 :: s1 :: s2 :: s3 :: s4 :: s5 :: s6 :: s7 :: s8 :: s9 :: s10 :: s11 :: s12 :: s13 :: .own (.lst xs) :: r) n = f (s0 :: s1 :: s2 :: s3 :: s4 :: s5 :: s6 :: s7 :: s8 :: s9 :: s10 :: s11 :: s12 :: s13 :: .own (.lst xs) :: r) n fun y n1 => xs.length < sizeLine ∧ W.nx (s0 :: s1 :: s2 :: s3 :: s4 :: s5 :: s6 :: s7 :: s8 :: s9 :: s10 :: s11 :: s12 :: s13 :: .own (.lst (xs ++ [y])) :: r) n1 := rfl
theorem wsSet_14 (s0 s1 s2 s3 s4 s5 s6 s7 s8 s9 s10 s11 s12 s13 : Sl) : wsSet 14 f W (s0 :: s1 :: s2 :: s3 :: s4 :: s5 :: s6 :: s7 :: s8 :: s9 :: s10 :: s11 :: s12 :: s13 :: s :: r) n = f (s0 :: s1 :: s2 :: s3 :: s4 :: s5 :: s6 :: s7 :: s8 :: s9 :: s10 :: s11 :: s12 :: s13 :: s :: r) n fun y n1 => W.nx (s0 :: s1 :: s2 :: s3 :: s4 :: s5 :: s6 :: s7 :: s8 :: s9 :: s10 :: s11 :: s12 :: s13 :: .tr y :: r) n1 := rfl
theorem wsOwn_14 (s0 s1 s2 s3 s4 s5 s6 s7 s8 s9 s10 s11 s12 s13 : Sl) : wsOwn 14 f W (s0 :: s1 :: s2 :: s3 :: s4 :: s5 :: s6 :: s7 :: s8 :: s9 :: s10 :: s11 :: s12 :: s13 :: s :: r) n = f (s0 :: s1 :: s2 :: s3 :: s4 :: s5 :: s6 :: s7 :: s8 :: s9 :: s10 :: s11 :: s12 :: s13 :: s :: r) n fun y n1 => W.nx (s0 :: s1 :: s2 :: s3 :: s4 :: s5 :: s6 :: s7 :: s8 :: s9 :: s10 :: s11 :: s12 :: s13 :: .own y :: r) n1 := rfl
theorem wgName_14 (s0 s1 s2 s3 s4 s5 s6 s7 s8 s9 s10 s11 s12 s13 : Sl) : wgName 14 x (s0 :: s1 :: s2 :: s3 :: s4 :: s5 :: s6 :: s7 :: s8 :: s9 :: s10 :: s11 :: s12 :: s13 :: s :: r) n Q = Q (s0 :: s1 :: s2 :: s3 :: s4 :: s5 :: s6 :: s7 :: s8 :: s9 :: s10 :: s11 :: s12 :: s13 :: .tr x :: r) n := rfl
theorem wsAug_15 (s0 s1 s2 s3 s4 s5 s6 s7 s8 s9 s10 s11 s12 s13 s14 : Sl) : wsAug 15 f g W (s0 :: s1 :: s2 :: s3 :: s4 :: s5 :: s6 :: s7 :: s8 :: s9 :: s10 :: s11 :: s12 :: s13 :: s14 :: .tr x :: r) n = f (s0 :: s1 :: s2 :: s3 :: s4 :: s5 :: s6 :: s7 :: s8 :: s9 :: s10 :: s11 :: s12 :: s13 :: s14 :: .tr x :: r) n fun y n1 => g x y fun z => W.nx (s0 :: s1 :: s2 :: s3 :: s4 :: s5 :: s6 :: s7 :: s8 :: s9 :: s10 :: s11 :: s12 :: s13 :: s14 :: .tr z :: r) n1 := rfl
theorem wsApp_15 (s0 s1 s2 s3 s4 s5 s6 s7 s8 s9 s10 s11 s12 s13 s14 : Sl) : wsApp 15 f W (s0 :: s1 :: s2 :: s3 :: s4 :: s5 :: s6 :: s7 :: s8 :: s9 :: s10 :: s11 :: s12 :: s13 :: s14 :: .own (.lst xs) :: r) n = f (s0 :: s1 :: s2 :: s3 :: s4 :: s5 :: s6 :: s7 :: s8 :: s9 :: s10 :: s11 :: s12 :: s13 :: s14 :: .own (.lst xs) :: r) n fun y n1 => xs.length < sizeLine ∧ W.nx (s0 :: s1 :: s2 :: s3 :: s4 :: s5 :: s6 :: s7 :: s8 :: s9 :: s10 :: s11 :: s12 :: s13 :: s14 :: .own (.lst (xs ++ [y])) :: r) n1 := rfl
theorem wsSet_15 (s0 s1 s2 s3 s4 s5 s6 s7 s8 s9 s10 s11 s12 s13 s14 : Sl) : wsSet 15 f W (s0 :: s1 :: s2 :: s3 :: s4 :: s5 :: s6 :: s7 :: s8 :: s9 :: s10 :: s11 :: s12 :: s13 :: s14 :: s :: r) n = f (s0 :: s1 :: s2 :: s3 :: s4 :: s5 :: s6 :: s7 :: s8 :: s9 :: s10 :: s11 :: s12 :: s13 :: s14 :: s :: r) n fun y n1 => W.nx (s0 :: s1 :: s2 :: s3 :: s4 :: s5 :: s6 :: s7 :: s8 :: s9 :: s10 :: s11 :: s12 :: s13 :: s14 :: .tr y :: r) n1 := rfl
theorem wsOwn_15 (s0 s1 s2 s3 s4 s5 s6 s7 s8 s9 s10 s11 s12 s13 s14 : Sl) : wsOwn 15 f W (s0 :: s1 :: s2 :: s3 :: s4 :: s5 :: s6 :: s7 :: s8 :: s9 :: s10 :: s11 :: s12 :: s13 :: s14 :: s :: r) n = f (s0 :: s1 :: s2 :: s3 :: s4 :: s5 :: s6 :: s7 :: s8 :: s9 :: s10 :: s11 :: s12 :: s13 :: s14 :: s :: r) n fun y n1 => W.nx (s0 :: s1 :: s2 :: s3 :: s4 :: s5 :: s6 :: s7 :: s8 :: s9 :: s10 :: s11 :: s12 :: s13 :: s14 :: .own y :: r) n1 := rfl
theorem wgName_15 (s0 s1 s2 s3 s4 s5 s6 s7 s8 s9 s10 s11 s12 s13 s14 : Sl) : wgName 15 x (s0 :: s1 :: s2 :: s3 :: s4 :: s5 :: s6 :: s7 :: s8 :: s9 :: s10 :: s11 :: s12 :: s13 :: s14 :: s :: r) n Q = Q (s0 :: s1 :: s2 :: s3 :: s4 :: s5 :: s6 :: s7 :: s8 :: s9 :: s10 :: s11 :: s12 :: s13 :: s14 :: .tr x :: r) n := rfl
theorem wsAug_16 (s0 s1 s2 s3 s4 s5 s6 s7 s8 s9 s10 s11 s12 s13 s14 s15 : Sl) : wsAug 16 f g W (s0 :: s1 :: s2 :: s3 :: s4 :: s5 :: s6 :: s7 :: s8 :: s9 :: s10 :: s11 :: s12 :: s13 :: s14 :: s15 :: .tr x :: r) n = f (s0 :: s1 :: s2 :: s3 :: s4 :: s5 :: s6 :: s7 :: s8 :: s9 :: s10 :: s11 :: s12 :: s13 :: s14 :: s15 :: .tr x :: r) n fun y n1 => g x y fun z => W.nx (s0 :: s1 :: s2 :: s3 :: s4 :: s5 :: s6 :: s7 :: s8 :: s9 :: s10 :: s11 :: s12 :: s13 :: s14 :: s15 :: .tr z :: r) n1 := rfl
theorem wsApp_16 (s0 s1 s2 s3 s4 s5 s6 s7 s8 s9 s10 s11 s12 s13 s14 s15 : Sl) : wsApp 16 f W (s0 :: s1 :: s2 :: s3 :: s4 :: s5 :: s6 :: s7 :: s8 :: s9 :: s10 :: s11 :: s12 :: s13 :: s14 :: s15 :: .own (.lst xs) :: r) n = f (s0 :: s1 :: s2 :: s3 :: s4 :: s5 :: s6 :: s7 :: s8 :: s9 :: s10 :: s11 :: s12 :: s13 :: s14 :: s15 :: .own (.lst xs) :: r) n fun y n1 => xs.length < sizeLine ∧ W.nx (s0 :: s1 :: s2 :: s3 :: s4 :: s5 :: s6 :: s7 :: s8 :: s9 :: s10 :: s11 :: s12 :: s13 :: s14 :: s15 :: .own (.lst (xs ++ [y])) :: r) n1 := rfl
theorem wsSet_16 (s0 s1 s2 s3 s4 s5 s6 s7 s8 s9 s10 s11 s12 s13 s14 s15 : Sl) : wsSet 16 f W (s0 :: s1 :: s2 :: s3 :: s4 :: s5 :: s6 :: s7 :: s8 :: s9 :: s10 :: s11 :: s12 :: s13 :: s14 :: s15 :: s :: r) n = f (s0 :: s1 :: s2 :: s3 :: s4 :: s5 :: s6 :: s7 :: s8 :: s9 :: s10 :: s11 :: s12 :: s13 :: s14 :: s15 :: s :: r) n fun y n1 => W.nx (s0 :: s1 :: s2 :: s3 :: s4 :: s5 :: s6 :: s7 :: s8 :: s9 :: s10 :: s11 :: s12 :: s13 :: s14 :: s15 :: .tr y :: r) n1 := rfl
theorem wsOwn_16 (s0 s1 s2 s3 s4 s5 s6 s7 s8 s9 s10 s11 s12 s13 s14 s15 : Sl) : wsOwn 16 f W (s0 :: s1 :: s2 :: s3 :: s4 :: s5 :: s6 :: s7 :: s8 :: s9 :: s10 :: s11 :: s12 :: s13 :: s14 :: s15 :: s :: r) n = f (s0 :: s1 :: s2 :: s3 :: s4 :: s5 :: s6 :: s7 :: s8 :: s9 :: s10 :: s11 :: s12 :: s13 :: s14 :: s15 :: s :: r) n fun y n1 => W.nx (s0 :: s1 :: s2 :: s3 :: s4 :: s5 :: s6 :: s7 :: s8 :: s9 :: s10 :: s11 :: s12 :: s13 :: s14 :: s15 :: .own y :: r) n1 := rfl
theorem wgName_16 (s0 s1 s2 s3 s4 s5 s6 s7 s8 s9 s10 s11 s12 s13 s14 s15 : Sl) : wgName 16 x (s0 :: s1 :: s2 :: s3 :: s4 :: s5 :: s6 :: s7 :: s8 :: s9 :: s10 :: s11 :: s12 :: s13 :: s14 :: s15 :: s :: r) n Q = Q (s0 :: s1 :: s2 :: s3 :: s4 :: s5 :: s6 :: s7 :: s8 :: s9 :: s10 :: s11 :: s12 :: s13 :: s14 :: s15 :: .tr x :: r) n := rfl
theorem wsAug_17 (s0 s1 s2 s3 s4 s5 s6 s7 s8 s9 s10 s11 s12 s13 s14 s15 s16 : Sl) : wsAug 17 f g W (s0 :: s1 :: s2 :: s3 :: s4 :: s5 :: s6 :: s7 :: s8 :: s9 :: s10 :: s11 :: s12 :: s13 :: s14 :: s15 :: s16 :: .tr x :: r) n = f (s0 :: s1 :: s2 :: s3 :: s4 :: s5 :: s6 :: s7 :: s8 :: s9 :: s10 :: s11 :: s12 :: s13 :: s14 :: s15 :: s16 :: .tr x :: r) n fun y n1 => g x y fun z => W.nx (s0 :: s1 :: s2 :: s3 :: s4 :: s5 :: s6 :: s7 :: s8 :: s9 :: s10 :: s11 :: s12 :: s13 :: s14 :: s15 :: s16 :: .tr z :: r) n1 := rfl
theorem wsApp_17 (s0 s1 s2 s3 s4 s5 s6 s7 s8 s9 s10 s11 s12 s13 s14 s15 s16 : Sl) : wsApp 17 f W (s0 :: s1 :: s2 :: s3 :: s4 :: s5 :: s6 :: s7 :: s8 :: s9 :: s10 :: s11 :: s12 :: s13 :: s14 :: s15 :: s16 :: .own (.lst xs) :: r) n = f (s0 :: s1 :: s2 :: s3 :: s4 :: s5 :: s6 :: s7 :: s8 :: s9 :: s10 :: s11 :: s12 :: s13 :: s14 :: s15 :: s16 :: .own (.lst xs) :: r) n fun y n1 => xs.length < sizeLine ∧ W.nx (s0 :: s1 :: s2 :: s3 :: s4 :: s5 :: s6 :: s7 :: s8 :: s9 :: s10 :: s11 :: s12 :: s13 :: s14 :: s15 :: s16 :: .own (.lst (xs ++ [y])) :: r) n1 := rfl
theorem wsSet_17 (s0 s1 s2 s3 s4 s5 s6 s7 s8 s9 s10 s11 s12 s13 s14 s15 s16 : Sl) : wsSet 17 f W (s0 :: s1 :: s2 :: s3 :: s4 :: s5 :: s6 :: s7 :: s8 :: s9 :: s10 :: s11 :: s12 :: s13 :: s14 :: s15 :: s16 :: s :: r) n = f (s0 :: s1 :: s2 :: s3 :: s4 :: s5 :: s6 :: s7 :: s8 :: s9 :: s10 :: s11 :: s12 :: s13 :: s14 :: s15 :: s16 :: s :: r) n fun y n1 => W.nx (s0 :: s1 :: s2 :: s3 :: s4 :: s5 :: s6 :: s7 :: s8 :: s9 :: s10 :: s11 :: s12 :: s13 :: s14 :: s15 :: s16 :: .tr y :: r) n1 := rfl
theorem wsOwn_17 (s0 s1 s2 s3 s4 s5 s6 s7 s8 s9 s10 s11 s12 s13 s14 s15 s16 : Sl) : wsOwn 17 f W (s0 :: s1 :: s2 :: s3 :: s4 :: s5 :: s6 :: s7 :: s8 :: s9 :: s10 :: s11 :: s12 :: s13 :: s14 :: s15 :: s16 :: s :: r) n = f (s0 :: s1 :: s2 :: s3 :: s4 :: s5 :: s6 :: s7 :: s8 :: s9 :: s10 :: s11 :: s12 :: s13 :: s14 :: s15 :: s16 :: s :: r) n fun y n1 => W.nx (s0 :: s1 :: s2 :: s3 :: s4 :: s5 :: s6 :: s7 :: s8 :: s9 :: s10 :: s11 :: s12 :: s13 :: s14 :: s15 :: s16 :: .own y :: r) n1 := rfl
theorem wgName_17 (s0 s1 s2 s3 s4 s5 s6 s7 s8 s9 s10 s11 s12 s13 s14 s15 s16 : Sl) : wgName 17 x (s0 :: s1 :: s2 :: s3 :: s4 :: s5 :: s6 :: s7 :: s8 :: s9 :: s10 :: s11 :: s12 :: s13 :: s14 :: s15 :: s16 :: s :: r) n Q = Q (s0 :: s1 :: s2 :: s3 :: s4 :: s5 :: s6 :: s7 :: s8 :: s9 :: s10 :: s11 :: s12 :: s13 :: s14 :: s15 :: s16 :: .tr x :: r) n := rfl
theorem wsAug_18 (s0 s1 s2 s3 s4 s5 s6 s7 s8 s9 s10 s11 s12 s13 s14 s15 s16 s17 : Sl) : wsAug 18 f g W (s0 :: s1 :: s2 :: s3 :: s4 :: s5 :: s6 :: s7 :: s8 :: s9 :: s10 :: s11 :: s12 :: s13 :: s14 :: s15 :: s16 :: s17 :: .tr x :: r) n = f (s0 :: s1 :: s2 :: s3 :: s4 :: s5 :: s6 :: s7 :: s8 :: s9 :: s10 :: s11 :: s12 :: s13 :: s14 :: s15 :: s16 :: s17 :: .tr x :: r) n fun y n1 => g x y fun z => W.nx (s0 :: s1 :: s2 :: s3 :: s4 :: s5 :: s6 :: s7 :: s8 :: s9 :: s10 :: s11 :: s12 :: s13 :: s14 :: s15 :: s16 :: s17 :: .tr z :: r) n1 := rfl
theorem wsApp_18 (s0 s1 s2 s3 s4 s5 s6 s7 s8 s9 s10 s11 s12 s13 s14 s15 s16 s17 : Sl) : wsApp 18 f W (s0 :: s1 :: s2 :: s3 :: s4 :: s5 :: s6 :: s7 :: s8 :: s9 :: s10 :: s11 :: s12 :: s13 :: s14 :: s15 :: s16 :: s17 :: .own (.lst xs) :: r) n = f (s0 :: s1 :: s2 :: s3 :: s4 :: s5 :: s6 :: s7 :: s8 :: s9 :: s10 :: s11 :: s12 :: s13 :: s14 :: s15 :: s16 :: s17 :: .own (.lst xs) :: r) n fun y n1 => xs.length < sizeLine ∧ W.nx (s0 :: s1 :: s2 :: s3 :: s4 :: s5 :: s6 :: s7 :: s8 :: s9 :: s10 :: s11 :: s12 :: s13 :: s14 :: s15 :: s16 :: s17 :: .own (.lst (xs ++ [y])) :: r) n1 := rfl
theorem wsSet_18 (s0 s1 s2 s3 s4 s5 s6 s7 s8 s9 s10 s11 s12 s13 s14 s15 s16 s17 : Sl) : wsSet 18 f W (s0 :: s1 :: s2 :: s3 :: s4 :: s5 :: s6 :: s7 :: s8 :: s9 :: s10 :: s11 :: s12 :: s13 :: s14 :: s15 :: s16 :: s17 :: s :: r) n = f (s0 :: s1 :: s2 :: s3 :: s4 :: s5 :: s6 :: s7 :: s8 :: s9 :: s10 :: s11 :: s12 :: s13 :: s14 :: s15 :: s16 :: s17 :: s :: r) n fun y n1 => W.nx (s0 :: s1 :: s2 :: s3 :: s4 :: s5 :: s6 :: s7 :: s8 :: s9 :: s10 :: s11 :: s12 :: s13 :: s14 :: s15 :: s16 :: s17 :: .tr y :: r) n1 := rfl
theorem wsOwn_18 (s0 s1 s2 s3 s4 s5 s6 s7 s8 s9 s10 s11 s12 s13 s14 s15 s16 s17 : Sl) : wsOwn 18 f W (s0 :: s1 :: s2 :: s3 :: s4 :: s5 :: s6 :: s7 :: s8 :: s9 :: s10 :: s11 :: s12 :: s13 :: s14 :: s15 :: s16 :: s17 :: s :: r) n = f (s0 :: s1 :: s2 :: s3 :: s4 :: s5 :: s6 :: s7 :: s8 :: s9 :: s10 :: s11 :: s12 :: s13 :: s14 :: s15 :: s16 :: s17 :: s :: r) n fun y n1 => W.nx (s0 :: s1 :: s2 :: s3 :: s4 :: s5 :: s6 :: s7 :: s8 :: s9 :: s10 :: s11 :: s12 :: s13 :: s14 :: s15 :: s16 :: s17 :: .own y :: r) n1 := rfl
theorem wgName_18 (s0 s1 s2 s3 s4 s5 s6 s7 s8 s9 s10 s11 s12 s13 s14 s15 s16 s17 : Sl) : wgName 18 x (s0 :: s1 :: s2 :: s3 :: s4 :: s5 :: s6 :: s7 :: s8 :: s9 :: s10 :: s11 :: s12 :: s13 :: s14 :: s15 :: s16 :: s17 :: s :: r) n Q = Q (s0 :: s1 :: s2 :: s3 :: s4 :: s5 :: s6 :: s7 :: s8 :: s9 :: s10 :: s11 :: s12 :: s13 :: s14 :: s15 :: s16 :: s17 :: .tr x :: r) n := rfl
theorem wsAug_19 (s0 s1 s2 s3 s4 s5 s6 s7 s8 s9 s10 s11 s12 s13 s14 s15 s16 s17 s18 : Sl) : wsAug 19 f g W (s0 :: s1 :: s2 :: s3 :: s4 :: s5 :: s6 :: s7 :: s8 :: s9 :: s10 :: s11 :: s12 :: s13 :: s14 :: s15 :: s16 :: s17 :: s18 :: .tr x :: r) n = f (s0 :: s1 :: s2 :: s3 :: s4 :: s5 :: s6 :: s7 :: s8 :: s9 :: s10 :: s11 :: s12 :: s13 :: s14 :: s15 :: s16 :: s17 :: s18 :: .tr x :: r) n fun y n1 => g x y fun z => W.nx (s0 :: s1 :: s2 :: s3 :: s4 :: s5 :: s6 :: s7 :: s8 :: s9 :: s10 :: s11 :: s12 :: s13 :: s14 :: s15 :: s16 :: s17 :: s18 :: .tr z :: r) n1 := rfl
theorem wsApp_19 (s0 s1 s2 s3 s4 s5 s6 s7 s8 s9 s10 s11 s12 s13 s14 s15 s16 s17 s18 : Sl) : wsApp 19 f W (s0 :: s1 :: s2 :: s3 :: s4 :: s5 :: s6 :: s7 :: s8 :: s9 :: s10 :: s11 :: s12 :: s13 :: s14 :: s15 :: s16 :: s17 :: s18 :: .own (.lst xs) :: r) n = f (s0 :: s1 :: s2 :: s3 :: s4 :: s5 :: s6 :: s7 :: s8 :: s9 :: s10 :: s11 :: s12 :: s13 :: s14 :: s15 :: s16 :: s17 :: s18 :: .own (.lst xs) :: r) n fun y n1 => xs.length < sizeLine ∧ W.nx (s0 :: s1 :: s2 :: s3 :: s4 :: s5 :: s6 :: s7 :: s8 :: s9 :: s10 :: s11 :: s12 :: s13 :: s14 :: s15 :: s16 :: s17 :: s18 :: .own (.lst (xs ++ [y])) :: r) n1 := rfl
theorem wsSet_19 (s0 s1 s2 s3 s4 s5 s6 s7 s8 s9 s10 s11 s12 s13 s14 s15 s16 s17 s18 : Sl) : wsSet 19 f W (s0 :: s1 :: s2 :: s3 :: s4 :: s5 :: s6 :: s7 :: s8 :: s9 :: s10 :: s11 :: s12 :: s13 :: s14 :: s15 :: s16 :: s17 :: s18 :: s :: r) n = f (s0 :: s1 :: s2 :: s3 :: s4 :: s5 :: s6 :: s7 :: s8 :: s9 :: s10 :: s11 :: s12 :: s13 :: s14 :: s15 :: s16 :: s17 :: s18 :: s :: r) n fun y n1 => W.nx (s0 :: s1 :: s2 :: s3 :: s4 :: s5 :: s6 :: s7 :: s8 :: s9 :: s10 :: s11 :: s12 :: s13 :: s14 :: s15 :: s16 :: s17 :: s18 :: .tr y :: r) n1 := rfl
theorem wsOwn_19 (s0 s1 s2 s3 s4 s5 s6 s7 s8 s9 s10 s11 s12 s13 s14 s15 s16 s17 s18 : Sl) : wsOwn 19 f W (s0 :: s1 :: s2 :: s3 :: s4 :: s5 :: s6 :: s7 :: s8 :: s9 :: s10 :: s11 :: s12 :: s13 :: s14 :: s15 :: s16 :: s17 :: s18 :: s :: r) n = f (s0 :: s1 :: s2 :: s3 :: s4 :: s5 :: s6 :: s7 :: s8 :: s9 :: s10 :: s11 :: s12 :: s13 :: s14 :: s15 :: s16 :: s17 :: s18 :: s :: r) n fun y n1 => W.nx (s0 :: s1 :: s2 :: s3 :: s4 :: s5 :: s6 :: s7 :: s8 :: s9 :: s10 :: s11 :: s12 :: s13 :: s14 :: s15 :: s16 :: s17 :: s18 :: .own y :: r) n1 := rfl
theorem wgName_19 (s0 s1 s2 s3 s4 s5 s6 s7 s8 s9 s10 s11 s12 s13 s14 s15 s16 s17 s18 : Sl) : wgName 19 x (s0 :: s1 :: s2 :: s3 :: s4 :: s5 :: s6 :: s7 :: s8 :: s9 :: s10 :: s11 :: s12 :: s13 :: s14 :: s15 :: s16 :: s17 :: s18 :: s :: r) n Q = Q (s0 :: s1 :: s2 :: s3 :: s4 :: s5 :: s6 :: s7 :: s8 :: s9 :: s10 :: s11 :: s12 :: s13 :: s14 :: s15 :: s16 :: s17 :: s18 :: .tr x :: r) n := rfl
end
section
variable (fa : WA) (W : WEnds) (n : Nat) (r : Env) (s u : Sl)
theorem wsPar_0_1 : wsPar 0 1 fa W (s :: u :: r) n = fa (s :: u :: r) n fun rs n1 => match rs with | [a, b] => W.nx (.tr a :: .tr b :: r) n1 | _ => False := rfl
theorem wsPar_0_2 (s1 : Sl) : wsPar 0 2 fa W (s :: s1 :: u :: r) n = fa (s :: s1 :: u :: r) n fun rs n1 => match rs with | [a, b] => W.nx (.tr a :: s1 :: .tr b :: r) n1 | _ => False := rfl
theorem wsPar_0_3 (s1 s2 : Sl) : wsPar 0 3 fa W (s :: s1 :: s2 :: u :: r) n = fa (s :: s1 :: s2 :: u :: r) n fun rs n1 => match rs with | [a, b] => W.nx (.tr a :: s1 :: s2 :: .tr b :: r) n1 | _ => False := rfl
theorem wsPar_0_4 (s1 s2 s3 : Sl) : wsPar 0 4 fa W (s :: s1 :: s2 :: s3 :: u :: r) n = fa (s :: s1 :: s2 :: s3 :: u :: r) n fun rs n1 => match rs with | [a, b] => W.nx (.tr a :: s1 :: s2 :: s3 :: .tr b :: r) n1 | _ => False := rfl
theorem wsPar_0_5 (s1 s2 s3 s4 : Sl) : wsPar 0 5 fa W (s :: s1 :: s2 :: s3 :: s4 :: u :: r) n = fa (s :: s1 :: s2 :: s3 :: s4 :: u :: r) n fun rs n1 => match rs with | [a, b] => W.nx (.tr a :: s1 :: s2 :: s3 :: s4 :: .tr b :: r) n1 | _ => False := rfl
theorem wsPar_0_6 (s1 s2 s3 s4 s5 : Sl) : wsPar 0 6 fa W (s :: s1 :: s2 :: s3 :: s4 :: s5 :: u :: r) n = fa (s :: s1 :: s2 :: s3 :: s4 :: s5 :: u :: r) n fun rs n1 => match rs with | [a, b] => W.nx (.tr a :: s1 :: s2 :: s3 :: s4 :: s5 :: .tr b :: r) n1 | _ => False := rfl
theorem wsPar_0_7 (s1 s2 s3 s4 s5 s6 : Sl) : wsPar 0 7 fa W (s :: s1 :: s2 :: s3 :: s4 :: s5 :: s6 :: u :: r) n = fa (s :: s1 :: s2 :: s3 :: s4 :: s5 :: s6 :: u :: r) n fun rs n1 => match rs with | [a, b] => W.nx (.tr a :: s1 :: s2 :: s3 :: s4 :: s5 :: s6 :: .tr b :: r) n1 | _ => False := rfl
theorem wsPar_0_8 (s1 s2 s3 s4 s5 s6 s7 : Sl) : wsPar 0 8 fa W (s :: s1 :: s2 :: s3 :: s4 :: s5 :: s6 :: s7 :: u :: r) n = fa (s :: s1 :: s2 :: s3 :: s4 :: s5 :: s6 :: s7 :: u :: r) n fun rs n1 => match rs with | [a, b] => W.nx (.tr a :: s1 :: s2 :: s3 :: s4 :: s5 :: s6 :: s7 :: .tr b :: r) n1 | _ => False := rfl
theorem wsPar_0_9 (s1 s2 s3 s4 s5 s6 s7 s8 : Sl) : wsPar 0 9 fa W (s :: s1 :: s2 :: s3 :: s4 :: s5 :: s6 :: s7 :: s8 :: u :: r) n = fa (s :: s1 :: s2 :: s3 :: s4 :: s5 :: s6 :: s7 :: s8 :: u :: r) n fun rs n1 => match rs with | [a, b] => W.nx (.tr a :: s1 :: s2 :: s3 :: s4 :: s5 :: s6 :: s7 :: s8 :: .tr b :: r) n1 | _ => False := rfl
theorem wsPar_1_2 (s0 : Sl) : wsPar 1 2 fa W (s0 :: s :: u :: r) n = fa (s0 :: s :: u :: r) n fun rs n1 => match rs with | [a, b] => W.nx (s0 :: .tr a :: .tr b :: r) n1 | _ => False := rfl
theorem wsPar_1_3 (s0 s2 : Sl) : wsPar 1 3 fa W (s0 :: s :: s2 :: u :: r) n = fa (s0 :: s :: s2 :: u :: r) n fun rs n1 => match rs with | [a, b] => W.nx (s0 :: .tr a :: s2 :: .tr b :: r) n1 | _ => False := rfl
theorem wsPar_1_4 (s0 s2 s3 : Sl) : wsPar 1 4 fa W (s0 :: s :: s2 :: s3 :: u :: r) n = fa (s0 :: s :: s2 :: s3 :: u :: r) n fun rs n1 => match rs with | [a, b] => W.nx (s0 :: .tr a :: s2 :: s3 :: .tr b :: r) n1 | _ => False := rfl
theorem wsPar_1_5 (s0 s2 s3 s4 : Sl) : wsPar 1 5 fa W (s0 :: s :: s2 :: s3 :: s4 :: u :: r) n = fa (s0 :: s :: s2 :: s3 :: s4 :: u :: r) n fun rs n1 => match rs with | [a, b] => W.nx (s0 :: .tr a :: s2 :: s3 :: s4 :: .tr b :: r) n1 | _ => False := rfl
theorem wsPar_1_6 (s0 s2 s3 s4 s5 : Sl) : wsPar 1 6 fa W (s0 :: s :: s2 :: s3 :: s4 :: s5 :: u :: r) n = fa (s0 :: s :: s2 :: s3 :: s4 :: s5 :: u :: r) n fun rs n1 => match rs with | [a, b] => W.nx (s0 :: .tr a :: s2 :: s3 :: s4 :: s5 :: .tr b :: r) n1 | _ => False := rfl
theorem wsPar_1_7 (s0 s2 s3 s4 s5 s6 : Sl) : wsPar 1 7 fa W (s0 :: s :: s2 :: s3 :: s4 :: s5 :: s6 :: u :: r) n = fa (s0 :: s :: s2 :: s3 :: s4 :: s5 :: s6 :: u :: r) n fun rs n1 => match rs with | [a, b] => W.nx (s0 :: .tr a :: s2 :: s3 :: s4 :: s5 :: s6 :: .tr b :: r) n1 | _ => False := rfl
theorem wsPar_1_8 (s0 s2 s3 s4 s5 s6 s7 : Sl) : wsPar 1 8 fa W (s0 :: s :: s2 :: s3 :: s4 :: s5 :: s6 :: s7 :: u :: r) n = fa (s0 :: s :: s2 :: s3 :: s4 :: s5 :: s6 :: s7 :: u :: r) n fun rs n1 => match rs with | [a, b] => W.nx (s0 :: .tr a :: s2 :: s3 :: s4 :: s5 :: s6 :: s7 :: .tr b :: r) n1 | _ => False := rfl
theorem wsPar_1_9 (s0 s2 s3 s4 s5 s6 s7 s8 : Sl) : wsPar 1 9 fa W (s0 :: s :: s2 :: s3 :: s4 :: s5 :: s6 :: s7 :: s8 :: u :: r) n = fa (s0 :: s :: s2 :: s3 :: s4 :: s5 :: s6 :: s7 :: s8 :: u :: r) n fun rs n1 => match rs with | [a, b] => W.nx (s0 :: .tr a :: s2 :: s3 :: s4 :: s5 :: s6 :: s7 :: s8 :: .tr b :: r) n1 | _ => False := rfl
theorem wsPar_2_3 (s0 s1 : Sl) : wsPar 2 3 fa W (s0 :: s1 :: s :: u :: r) n = fa (s0 :: s1 :: s :: u :: r) n fun rs n1 => match rs with | [a, b] => W.nx (s0 :: s1 :: .tr a :: .tr b :: r) n1 | _ => False := rfl
theorem wsPar_2_4 (s0 s1 s3 : Sl) : wsPar 2 4 fa W (s0 :: s1 :: s :: s3 :: u :: r) n = fa (s0 :: s1 :: s :: s3 :: u :: r) n fun rs n1 => match rs with | [a, b] => W.nx (s0 :: s1 :: .tr a :: s3 :: .tr b :: r) n1 | _ => False := rfl
theorem wsPar_2_5 (s0 s1 s3 s4 : Sl) : wsPar 2 5 fa W (s0 :: s1 :: s :: s3 :: s4 :: u :: r) n = fa (s0 :: s1 :: s :: s3 :: s4 :: u :: r) n fun rs n1 => match rs with | [a, b] => W.nx (s0 :: s1 :: .tr a :: s3 :: s4 :: .tr b :: r) n1 | _ => False := rfl
theorem wsPar_2_6 (s0 s1 s3 s4 s5 : Sl) : wsPar 2 6 fa W (s0 :: s1 :: s :: s3 :: s4 :: s5 :: u :: r) n = fa (s0 :: s1 :: s :: s3 :: s4 :: s5 :: u :: r) n fun rs n1 => match rs with | [a, b] => W.nx (s0 :: s1 :: .tr a :: s3 :: s4 :: s5 :: .tr b :: r) n1 | _ => False := rfl
theorem wsPar_2_7 (s0 s1 s3 s4 s5 s6 : Sl) : wsPar 2 7 fa W (s0 :: s1 :: s :: s3 :: s4 :: s5 :: s6 :: u :: r) n = fa (s0 :: s1 :: s :: s3 :: s4 :: s5 :: s6 :: u :: r) n fun rs n1 => match rs with | [a, b] => W.nx (s0 :: s1 :: .tr a :: s3 :: s4 :: s5 :: s6 :: .tr b :: r) n1 | _ => False := rfl
theorem wsPar_2_8 (s0 s1 s3 s4 s5 s6 s7 : Sl) : wsPar 2 8 fa W (s0 :: s1 :: s :: s3 :: s4 :: s5 :: s6 :: s7 :: u :: r) n = fa (s0 :: s1 :: s :: s3 :: s4 :: s5 :: s6 :: s7 :: u :: r) n fun rs n1 => match rs with | [a, b] => W.nx (s0 :: s1 :: .tr a :: s3 :: s4 :: s5 :: s6 :: s7 :: .tr b :: r) n1 | _ => False := rfl
theorem wsPar_2_9 (s0 s1 s3 s4 s5 s6 s7 s8 : Sl) : wsPar 2 9 fa W (s0 :: s1 :: s :: s3 :: s4 :: s5 :: s6 :: s7 :: s8 :: u :: r) n = fa (s0 :: s1 :: s :: s3 :: s4 :: s5 :: s6 :: s7 :: s8 :: u :: r) n fun rs n1 => match rs with | [a, b] => W.nx (s0 :: s1 :: .tr a :: s3 :: s4 :: s5 :: s6 :: s7 :: s8 :: .tr b :: r) n1 | _ => False := rfl
theorem wsPar_3_4 (s0 s1 s2 : Sl) : wsPar 3 4 fa W (s0 :: s1 :: s2 :: s :: u :: r) n = fa (s0 :: s1 :: s2 :: s :: u :: r) n fun rs n1 => match rs with | [a, b] => W.nx (s0 :: s1 :: s2 :: .tr a :: .tr b :: r) n1 | _ => False := rfl
theorem wsPar_3_5 (s0 s1 s2 s4 : Sl) : wsPar 3 5 fa W (s0 :: s1 :: s2 :: s :: s4 :: u :: r) n = fa (s0 :: s1 :: s2 :: s :: s4 :: u :: r) n fun rs n1 => match rs with | [a, b] => W.nx (s0 :: s1 :: s2 :: .tr a :: s4 :: .tr b :: r) n1 | _ => False := rfl
theorem wsPar_3_6 (s0 s1 s2 s4 s5 : Sl) : wsPar 3 6 fa W (s0 :: s1 :: s2 :: s :: s4 :: s5 :: u :: r) n = fa (s0 :: s1 :: s2 :: s :: s4 :: s5 :: u :: r) n fun rs n1 => match rs with | [a, b] => W.nx (s0 :: s1 :: s2 :: .tr a :: s4 :: s5 :: .tr b :: r) n1 | _ => False := rfl
theorem wsPar_3_7 (s0 s1 s2 s4 s5 s6 : Sl) : wsPar 3 7 fa W (s0 :: s1 :: s2 :: s :: s4 :: s5 :: s6 :: u :: r) n = fa (s0 :: s1 :: s2 :: s :: s4 :: s5 :: s6 :: u :: r) n fun rs n1 => match rs with | [a, b] => W.nx (s0 :: s1 :: s2 :: .tr a :: s4 :: s5 :: s6 :: .tr b :: r) n1 | _ => False := rfl
theorem wsPar_3_8 (s0 s1 s2 s4 s5 s6 s7 : Sl) : wsPar 3 8 fa W (s0 :: s1 :: s2 :: s :: s4 :: s5 :: s6 :: s7 :: u :: r) n = fa (s0 :: s1 :: s2 :: s :: s4 :: s5 :: s6 :: s7 :: u :: r) n fun rs n1 => match rs with | [a, b] => W.nx (s0 :: s1 :: s2 :: .tr a :: s4 :: s5 :: s6 :: s7 :: .tr b :: r) n1 | _ => False := rfl
theorem wsPar_3_9 (s0 s1 s2 s4 s5 s6 s7 s8 : Sl) : wsPar 3 9 fa W (s0 :: s1 :: s2 :: s :: s4 :: s5 :: s6 :: s7 :: s8 :: u :: r) n = fa (s0 :: s1 :: s2 :: s :: s4 :: s5 :: s6 :: s7 :: s8 :: u :: r) n fun rs n1 => match rs with | [a, b] => W.nx (s0 :: s1 :: s2 :: .tr a :: s4 :: s5 :: s6 :: s7 :: s8 :: .tr b :: r) n1 | _ => False := rfl
theorem wsPar_4_5 (s0 s1 s2 s3 : Sl) : wsPar 4 5 fa W (s0 :: s1 :: s2 :: s3 :: s :: u :: r) n = fa (s0 :: s1 :: s2 :: s3 :: s :: u :: r) n fun rs n1 => match rs with | [a, b] => W.nx (s0 :: s1 :: s2 :: s3 :: .tr a :: .tr b :: r) n1 | _ => False := rfl
theorem wsPar_4_6 (s0 s1 s2 s3 s5 : Sl) : wsPar 4 6 fa W (s0 :: s1 :: s2 :: s3 :: s :: s5 :: u :: r) n = fa (s0 :: s1 :: s2 :: s3 :: s :: s5 :: u :: r) n fun rs n1 => match rs with | [a, b] => W.nx (s0 :: s1 :: s2 :: s3 :: .tr a :: s5 :: .tr b :: r) n1 | _ => False := rfl
theorem wsPar_4_7 (s0 s1 s2 s3 s5 s6 : Sl) : wsPar 4 7 fa W (s0 :: s1 :: s2 :: s3 :: s :: s5 :: s6 :: u :: r) n = fa (s0 :: s1 :: s2 :: s3 :: s :: s5 :: s6 :: u :: r) n fun rs n1 => match rs with | [a, b] => W.nx (s0 :: s1 :: s2 :: s3 :: .tr a :: s5 :: s6 :: .tr b :: r) n1 | _ => False := rfl
theorem wsPar_4_8 (s0 s1 s2 s3 s5 s6 s7 : Sl) : wsPar 4 8 fa W (s0 :: s1 :: s2 :: s3 :: s :: s5 :: s6 :: s7 :: u :: r) n = fa (s0 :: s1 :: s2 :: s3 :: s :: s5 :: s6 :: s7 :: u :: r) n fun rs n1 => match rs with | [a, b] => W.nx (s0 :: s1 :: s2 :: s3 :: .tr a :: s5 :: s6 :: s7 :: .tr b :: r) n1 | _ => False := rfl
theorem wsPar_4_9 (s0 s1 s2 s3 s5 s6 s7 s8 : Sl) : wsPar 4 9 fa W (s0 :: s1 :: s2 :: s3 :: s :: s5 :: s6 :: s7 :: s8 :: u :: r) n = fa (s0 :: s1 :: s2 :: s3 :: s :: s5 :: s6 :: s7 :: s8 :: u :: r) n fun rs n1 => match rs with | [a, b] => W.nx (s0 :: s1 :: s2 :: s3 :: .tr a :: s5 :: s6 :: s7 :: s8 :: .tr b :: r) n1 | _ => False := rfl
theorem wsPar_5_6 (s0 s1 s2 s3 s4 : Sl) : wsPar 5 6 fa W (s0 :: s1 :: s2 :: s3 :: s4 :: s :: u :: r) n = fa (s0 :: s1 :: s2 :: s3 :: s4 :: s :: u :: r) n fun rs n1 => match rs with | [a, b] => W.nx (s0 :: s1 :: s2 :: s3 :: s4 :: .tr a :: .tr b :: r) n1 | _ => False := rfl
theorem wsPar_5_7 (s0 s1 s2 s3 s4 s6 : Sl) : wsPar 5 7 fa W (s0 :: s1 :: s2 :: s3 :: s4 :: s :: s6 :: u :: r) n = fa (s0 :: s1 :: s2 :: s3 :: s4 :: s :: s6 :: u :: r) n fun rs n1 => match rs with | [a, b] => W.nx (s0 :: s1 :: s2 :: s3 :: s4 :: .tr a :: s6 :: .tr b :: r) n1 | _ => False := rfl
theorem wsPar_5_8 (s0 s1 s2 s3 s4 s6 s7 : Sl) : wsPar 5 8 fa W (s0 :: s1 :: s2 :: s3 :: s4 :: s :: s6 :: s7 :: u :: r) n = fa (s0 :: s1 :: s2 :: s3 :: s4 :: s :: s6 :: s7 :: u :: r) n fun rs n1 => match rs with | [a, b] => W.nx (s0 :: s1 :: s2 :: s3 :: s4 :: .tr a :: s6 :: s7 :: .tr b :: r) n1 | _ => False := rfl
theorem wsPar_5_9 (s0 s1 s2 s3 s4 s6 s7 s8 : Sl) : wsPar 5 9 fa W (s0 :: s1 :: s2 :: s3 :: s4 :: s :: s6 :: s7 :: s8 :: u :: r) n = fa (s0 :: s1 :: s2 :: s3 :: s4 :: s :: s6 :: s7 :: s8 :: u :: r) n fun rs n1 => match rs with | [a, b] => W.nx (s0 :: s1 :: s2 :: s3 :: s4 :: .tr a :: s6 :: s7 :: s8 :: .tr b :: r) n1 | _ => False := rfl
theorem wsPar_6_7 (s0 s1 s2 s3 s4 s5 : Sl) : wsPar 6 7 fa W (s0 :: s1 :: s2 :: s3 :: s4 :: s5 :: s :: u :: r) n = fa (s0 :: s1 :: s2 :: s3 :: s4 :: s5 :: s :: u :: r) n fun rs n1 => match rs with | [a, b] => W.nx (s0 :: s1 :: s2 :: s3 :: s4 :: s5 :: .tr a :: .tr b :: r) n1 | _ => False := rfl
theorem wsPar_6_8 (s0 s1 s2 s3 s4 s5 s7 : Sl) : wsPar 6 8 fa W (s0 :: s1 :: s2 :: s3 :: s4 :: s5 :: s :: s7 :: u :: r) n = fa (s0 :: s1 :: s2 :: s3 :: s4 :: s5 :: s :: s7 :: u :: r) n fun rs n1 => match rs with | [a, b] => W.nx (s0 :: s1 :: s2 :: s3 :: s4 :: s5 :: .tr a :: s7 :: .tr b :: r) n1 | _ => False := rfl
theorem wsPar_6_9 (s0 s1 s2 s3 s4 s5 s7 s8 : Sl) : wsPar 6 9 fa W (s0 :: s1 :: s2 :: s3 :: s4 :: s5 :: s :: s7 :: s8 :: u :: r) n = fa (s0 :: s1 :: s2 :: s3 :: s4 :: s5 :: s :: s7 :: s8 :: u :: r) n fun rs n1 => match rs with | [a, b] => W.nx (s0 :: s1 :: s2 :: s3 :: s4 :: s5 :: .tr a :: s7 :: s8 :: .tr b :: r) n1 | _ => False := rfl
theorem wsPar_7_8 (s0 s1 s2 s3 s4 s5 s6 : Sl) : wsPar 7 8 fa W (s0 :: s1 :: s2 :: s3 :: s4 :: s5 :: s6 :: s :: u :: r) n = fa (s0 :: s1 :: s2 :: s3 :: s4 :: s5 :: s6 :: s :: u :: r) n fun rs n1 => match rs with | [a, b] => W.nx (s0 :: s1 :: s2 :: s3 :: s4 :: s5 :: s6 :: .tr a :: .tr b :: r) n1 | _ => False := rfl
theorem wsPar_7_9 (s0 s1 s2 s3 s4 s5 s6 s8 : Sl) : wsPar 7 9 fa W (s0 :: s1 :: s2 :: s3 :: s4 :: s5 :: s6 :: s :: s8 :: u :: r) n = fa (s0 :: s1 :: s2 :: s3 :: s4 :: s5 :: s6 :: s :: s8 :: u :: r) n fun rs n1 => match rs with | [a, b] => W.nx (s0 :: s1 :: s2 :: s3 :: s4 :: s5 :: s6 :: .tr a :: s8 :: .tr b :: r) n1 | _ => False := rfl
theorem wsPar_8_9 (s0 s1 s2 s3 s4 s5 s6 s7 : Sl) : wsPar 8 9 fa W (s0 :: s1 :: s2 :: s3 :: s4 :: s5 :: s6 :: s7 :: s :: u :: r) n = fa (s0 :: s1 :: s2 :: s3 :: s4 :: s5 :: s6 :: s7 :: s :: u :: r) n fun rs n1 => match rs with | [a, b] => W.nx (s0 :: s1 :: s2 :: s3 :: s4 :: s5 :: s6 :: s7 :: .tr a :: .tr b :: r) n1 | _ => False := rfl
end
section
variable (r : Env) (s x : Sl) (t : T)
theorem eset_0 : List.set (s :: r) 0 x = (x :: r) := rfl
theorem eset_1 (s0 : Sl) : List.set (s0 :: s :: r) 1 x = (s0 :: x :: r) := rfl
theorem eset_2 (s0 s1 : Sl) : List.set (s0 :: s1 :: s :: r) 2 x = (s0 :: s1 :: x :: r) := rfl
theorem eset_3 (s0 s1 s2 : Sl) : List.set (s0 :: s1 :: s2 :: s :: r) 3 x = (s0 :: s1 :: s2 :: x :: r) := rfl
theorem eset_4 (s0 s1 s2 s3 : Sl) : List.set (s0 :: s1 :: s2 :: s3 :: s :: r) 4 x = (s0 :: s1 :: s2 :: s3 :: x :: r) := rfl
theorem eset_5 (s0 s1 s2 s3 s4 : Sl) : List.set (s0 :: s1 :: s2 :: s3 :: s4 :: s :: r) 5 x = (s0 :: s1 :: s2 :: s3 :: s4 :: x :: r) := rfl
theorem eset_6 (s0 s1 s2 s3 s4 s5 : Sl) : List.set (s0 :: s1 :: s2 :: s3 :: s4 :: s5 :: s :: r) 6 x = (s0 :: s1 :: s2 :: s3 :: s4 :: s5 :: x :: r) := rfl
theorem eset_7 (s0 s1 s2 s3 s4 s5 s6 : Sl) : List.set (s0 :: s1 :: s2 :: s3 :: s4 :: s5 :: s6 :: s :: r) 7 x = (s0 :: s1 :: s2 :: s3 :: s4 :: s5 :: s6 :: x :: r) := rfl
theorem eset_8 (s0 s1 s2 s3 s4 s5 s6 s7 : Sl) : List.set (s0 :: s1 :: s2 :: s3 :: s4 :: s5 :: s6 :: s7 :: s :: r) 8 x = (s0 :: s1 :: s2 :: s3 :: s4 :: s5 :: s6 :: s7 :: x :: r) := rfl
theorem eset_9 (s0 s1 s2 s3 s4 s5 s6 s7 s8 : Sl) : List.set (s0 :: s1 :: s2 :: s3 :: s4 :: s5 :: s6 :: s7 :: s8 :: s :: r) 9 x = (s0 :: s1 :: s2 :: s3 :: s4 :: s5 :: s6 :: s7 :: s8 :: x :: r) := rfl
theorem eset_10 (s0 s1 s2 s3 s4 s5 s6 s7 s8 s9 : Sl) : List.set (s0 :: s1 :: s2 :: s3 :: s4 :: s5 :: s6 :: s7 :: s8 :: s9 :: s :: r) 10 x = (s0 :: s1 :: s2 :: s3 :: s4 :: s5 :: s6 :: s7 :: s8 :: s9 :: x :: r) := rfl
theorem eset_11 (s0 s1 s2 s3 s4 s5 s6 s7 s8 s9 s10 : Sl) : List.set (s0 :: s1 :: s2 :: s3 :: s4 :: s5 :: s6 :: s7 :: s8 :: s9 :: s10 :: s :: r) 11 x = (s0 :: s1 :: s2 :: s3 :: s4 :: s5 :: s6 :: s7 :: s8 :: s9 :: s10 :: x :: r) := rfl
theorem eset_12 (s0 s1 s2 s3 s4 s5 s6 s7 s8 s9 s10 s11 : Sl) : List.set (s0 :: s1 :: s2 :: s3 :: s4 :: s5 :: s6 :: s7 :: s8 :: s9 :: s10 :: s11 :: s :: r) 12 x = (s0 :: s1 :: s2 :: s3 :: s4 :: s5 :: s6 :: s7 :: s8 :: s9 :: s10 :: s11 :: x :: r) := rfl
theorem eset_13 (s0 s1 s2 s3 s4 s5 s6 s7 s8 s9 s10 s11 s12 : Sl) : List.set (s0 :: s1 :: s2 :: s3 :: s4 :: s5 :: s6 :: s7 :: s8 :: s9 :: s10 :: s11 :: s12 :: s :: r) 13 x = (s0 :: s1 :: s2 :: s3 :: s4 :: s5 :: s6 :: s7 :: s8 :: s9 :: s10 :: s11 :: s12 :: x :: r) := rfl
theorem eset_14 (s0 s1 s2 s3 s4 s5 s6 s7 s8 s9 s10 s11 s12 s13 : Sl) : List.set (s0 :: s1 :: s2 :: s3 :: s4 :: s5 :: s6 :: s7 :: s8 :: s9 :: s10 :: s11 :: s12 :: s13 :: s :: r) 14 x = (s0 :: s1 :: s2 :: s3 :: s4 :: s5 :: s6 :: s7 :: s8 :: s9 :: s10 :: s11 :: s12 :: s13 :: x :: r) := rfl
theorem eset_15 (s0 s1 s2 s3 s4 s5 s6 s7 s8 s9 s10 s11 s12 s13 s14 : Sl) : List.set (s0 :: s1 :: s2 :: s3 :: s4 :: s5 :: s6 :: s7 :: s8 :: s9 :: s10 :: s11 :: s12 :: s13 :: s14 :: s :: r) 15 x = (s0 :: s1 :: s2 :: s3 :: s4 :: s5 :: s6 :: s7 :: s8 :: s9 :: s10 :: s11 :: s12 :: s13 :: s14 :: x :: r) := rfl
theorem eset_16 (s0 s1 s2 s3 s4 s5 s6 s7 s8 s9 s10 s11 s12 s13 s14 s15 : Sl) : List.set (s0 :: s1 :: s2 :: s3 :: s4 :: s5 :: s6 :: s7 :: s8 :: s9 :: s10 :: s11 :: s12 :: s13 :: s14 :: s15 :: s :: r) 16 x = (s0 :: s1 :: s2 :: s3 :: s4 :: s5 :: s6 :: s7 :: s8 :: s9 :: s10 :: s11 :: s12 :: s13 :: s14 :: s15 :: x :: r) := rfl
theorem eset_17 (s0 s1 s2 s3 s4 s5 s6 s7 s8 s9 s10 s11 s12 s13 s14 s15 s16 : Sl) : List.set (s0 :: s1 :: s2 :: s3 :: s4 :: s5 :: s6 :: s7 :: s8 :: s9 :: s10 :: s11 :: s12 :: s13 :: s14 :: s15 :: s16 :: s :: r) 17 x = (s0 :: s1 :: s2 :: s3 :: s4 :: s5 :: s6 :: s7 :: s8 :: s9 :: s10 :: s11 :: s12 :: s13 :: s14 :: s15 :: s16 :: x :: r) := rfl
theorem eset_18 (s0 s1 s2 s3 s4 s5 s6 s7 s8 s9 s10 s11 s12 s13 s14 s15 s16 s17 : Sl) : List.set (s0 :: s1 :: s2 :: s3 :: s4 :: s5 :: s6 :: s7 :: s8 :: s9 :: s10 :: s11 :: s12 :: s13 :: s14 :: s15 :: s16 :: s17 :: s :: r) 18 x = (s0 :: s1 :: s2 :: s3 :: s4 :: s5 :: s6 :: s7 :: s8 :: s9 :: s10 :: s11 :: s12 :: s13 :: s14 :: s15 :: s16 :: s17 :: x :: r) := rfl
theorem eset_19 (s0 s1 s2 s3 s4 s5 s6 s7 s8 s9 s10 s11 s12 s13 s14 s15 s16 s17 s18 : Sl) : List.set (s0 :: s1 :: s2 :: s3 :: s4 :: s5 :: s6 :: s7 :: s8 :: s9 :: s10 :: s11 :: s12 :: s13 :: s14 :: s15 :: s16 :: s17 :: s18 :: s :: r) 19 x = (s0 :: s1 :: s2 :: s3 :: s4 :: s5 :: s6 :: s7 :: s8 :: s9 :: s10 :: s11 :: s12 :: s13 :: s14 :: s15 :: s16 :: s17 :: s18 :: x :: r) := rfl
theorem esee_n : List.map Sl.see [] = [] := rfl
theorem esee_t : List.map Sl.see (.tr t :: r) = .tr t :: List.map Sl.see r := rfl
theorem esee_o : List.map Sl.see (.own t :: r) = .tr t :: List.map Sl.see r := rfl
theorem esee_x : List.map Sl.see (.no :: r) = .no :: List.map Sl.see r := rfl
end
section
variable (R : T → Prop)
theorem ixt_1_0 (a0 : T) : pIx (.tup [a0]) (.int 0) R = R a0 := rfl
theorem ixl_1_0 (a0 : T) : pIx (.lst [a0]) (.int 0) R = R a0 := rfl
theorem ixt_2_0 (a0 a1 : T) : pIx (.tup [a0, a1]) (.int 0) R = R a0 := rfl
theorem ixl_2_0 (a0 a1 : T) : pIx (.lst [a0, a1]) (.int 0) R = R a0 := rfl
theorem ixt_2_1 (a0 a1 : T) : pIx (.tup [a0, a1]) (.int 1) R = R a1 := rfl
theorem ixl_2_1 (a0 a1 : T) : pIx (.lst [a0, a1]) (.int 1) R = R a1 := rfl
theorem ixt_3_0 (a0 a1 a2 : T) : pIx (.tup [a0, a1, a2]) (.int 0) R = R a0 := rfl
theorem ixl_3_0 (a0 a1 a2 : T) : pIx (.lst [a0, a1, a2]) (.int 0) R = R a0 := rfl
theorem ixt_3_1 (a0 a1 a2 : T) : pIx (.tup [a0, a1, a2]) (.int 1) R = R a1 := rfl
theorem ixl_3_1 (a0 a1 a2 : T) : pIx (.lst [a0, a1, a2]) (.int 1) R = R a1 := rfl
theorem ixt_3_2 (a0 a1 a2 : T) : pIx (.tup [a0, a1, a2]) (.int 2) R = R a2 := rfl
theorem ixl_3_2 (a0 a1 a2 : T) : pIx (.lst [a0, a1, a2]) (.int 2) R = R a2 := rfl
theorem ixt_4_0 (a0 a1 a2 a3 : T) : pIx (.tup [a0, a1, a2, a3]) (.int 0) R = R a0 := rfl
theorem ixl_4_0 (a0 a1 a2 a3 : T) : pIx (.lst [a0, a1, a2, a3]) (.int 0) R = R a0 := rfl
theorem ixt_4_1 (a0 a1 a2 a3 : T) : pIx (.tup [a0, a1, a2, a3]) (.int 1) R = R a1 := rfl
theorem ixl_4_1 (a0 a1 a2 a3 : T) : pIx (.lst [a0, a1, a2, a3]) (.int 1) R = R a1 := rfl
theorem ixt_4_2 (a0 a1 a2 a3 : T) : pIx (.tup [a0, a1, a2, a3]) (.int 2) R = R a2 := rfl
theorem ixl_4_2 (a0 a1 a2 a3 : T) : pIx (.lst [a0, a1, a2, a3]) (.int 2) R = R a2 := rfl
theorem ixt_4_3 (a0 a1 a2 a3 : T) : pIx (.tup [a0, a1, a2, a3]) (.int 3) R = R a3 := rfl
theorem ixl_4_3 (a0 a1 a2 a3 : T) : pIx (.lst [a0, a1, a2, a3]) (.int 3) R = R a3 := rfl
theorem ixt_5_0 (a0 a1 a2 a3 a4 : T) : pIx (.tup [a0, a1, a2, a3, a4]) (.int 0) R = R a0 := rfl
theorem ixl_5_0 (a0 a1 a2 a3 a4 : T) : pIx (.lst [a0, a1, a2, a3, a4]) (.int 0) R = R a0 := rfl
theorem ixt_5_1 (a0 a1 a2 a3 a4 : T) : pIx (.tup [a0, a1, a2, a3, a4]) (.int 1) R = R a1 := rfl
theorem ixl_5_1 (a0 a1 a2 a3 a4 : T) : pIx (.lst [a0, a1, a2, a3, a4]) (.int 1) R = R a1 := rfl
theorem ixt_5_2 (a0 a1 a2 a3 a4 : T) : pIx (.tup [a0, a1, a2, a3, a4]) (.int 2) R = R a2 := rfl
theorem ixl_5_2 (a0 a1 a2 a3 a4 : T) : pIx (.lst [a0, a1, a2, a3, a4]) (.int 2) R = R a2 := rfl
theorem ixt_5_3 (a0 a1 a2 a3 a4 : T) : pIx (.tup [a0, a1, a2, a3, a4]) (.int 3) R = R a3 := rfl
theorem ixl_5_3 (a0 a1 a2 a3 a4 : T) : pIx (.lst [a0, a1, a2, a3, a4]) (.int 3) R = R a3 := rfl
theorem ixt_5_4 (a0 a1 a2 a3 a4 : T) : pIx (.tup [a0, a1, a2, a3, a4]) (.int 4) R = R a4 := rfl
theorem ixl_5_4 (a0 a1 a2 a3 a4 : T) : pIx (.lst [a0, a1, a2, a3, a4]) (.int 4) R = R a4 := rfl
theorem ixt_6_0 (a0 a1 a2 a3 a4 a5 : T) : pIx (.tup [a0, a1, a2, a3, a4, a5]) (.int 0) R = R a0 := rfl
theorem ixl_6_0 (a0 a1 a2 a3 a4 a5 : T) : pIx (.lst [a0, a1, a2, a3, a4, a5]) (.int 0) R = R a0 := rfl
theorem ixt_6_1 (a0 a1 a2 a3 a4 a5 : T) : pIx (.tup [a0, a1, a2, a3, a4, a5]) (.int 1) R = R a1 := rfl
theorem ixl_6_1 (a0 a1 a2 a3 a4 a5 : T) : pIx (.lst [a0, a1, a2, a3, a4, a5]) (.int 1) R = R a1 := rfl
theorem ixt_6_2 (a0 a1 a2 a3 a4 a5 : T) : pIx (.tup [a0, a1, a2, a3, a4, a5]) (.int 2) R = R a2 := rfl
theorem ixl_6_2 (a0 a1 a2 a3 a4 a5 : T) : pIx (.lst [a0, a1, a2, a3, a4, a5]) (.int 2) R = R a2 := rfl
theorem ixt_6_3 (a0 a1 a2 a3 a4 a5 : T) : pIx (.tup [a0, a1, a2, a3, a4, a5]) (.int 3) R = R a3 := rfl
theorem ixl_6_3 (a0 a1 a2 a3 a4 a5 : T) : pIx (.lst [a0, a1, a2, a3, a4, a5]) (.int 3) R = R a3 := rfl
theorem ixt_6_4 (a0 a1 a2 a3 a4 a5 : T) : pIx (.tup [a0, a1, a2, a3, a4, a5]) (.int 4) R = R a4 := rfl
theorem ixl_6_4 (a0 a1 a2 a3 a4 a5 : T) : pIx (.lst [a0, a1, a2, a3, a4, a5]) (.int 4) R = R a4 := rfl
theorem ixt_6_5 (a0 a1 a2 a3 a4 a5 : T) : pIx (.tup [a0, a1, a2, a3, a4, a5]) (.int 5) R = R a5 := rfl
theorem ixl_6_5 (a0 a1 a2 a3 a4 a5 : T) : pIx (.lst [a0, a1, a2, a3, a4, a5]) (.int 5) R = R a5 := rfl
end
end TL
namespace TL
open PySem PySem.Spec PyProof.Rows L2
variable [Mach] [CN] [Xw]
/-! ### zip of two -/
def ItZ (K : PySem.W.Frag) (s1 s2 : Src) : It :=
  ⟨fun i H => ∃ xs ys : List V, s1.at_ K H xs ∧ s2.at_ K H ys ∧ i < min xs.length ys.length,
   fun i H v H' => ∃ p x y, v = .ref p ∧ H p = none ∧ H' = upd H p (.tup [x, y]) ∧ (∀ xs, s1.at_ K H xs → xs[i]? = some x) ∧ ∀ ys, s2.at_ K H ys → ys[i]? = some y,
   fun i H => ∃ xs ys : List V, s1.at_ K H xs ∧ s2.at_ K H ys ∧ i = min xs.length ys.length⟩
theorem turn_z {P : Program} {w : World} {K : PySem.W.Frag} {elts : List Expr} {kk : Nat} {tpos : Pos} {a b : Src} {z TI TO i1 i2 : Addr} {t1 t2 : Tok} (TIz : TI ≠ z) (TOz : TO ≠ z) (TITO : TI ≠ TO) (TIi1 : TI ≠ i1) (TIi2 : TI ≠ i2) (zi1 : z ≠ i1) (zi2 : z ≠ i2) (TOi1 : TO ≠ i1) (TOi2 : TO ≠ i2) (i12 : i1 ≠ i2)
    (az : a.ne z) (aT : a.ne TI) (aO : a.ne TO) (a1 : a.ne i1) (a2 : a.ne i2) (bz : b.ne z) (bT : b.ne TI) (bO : b.ne TO) (b1 : b.ne i1) (b2 : b.ne i2) :
    Turn P w K (.Tuple elts kk tpos) (ItZ K a b) [z, TI, TO, i1, i2] z (fun i h => IsZip h z TI TO .none ∧ IsTupOf2 h TI (.ref i1) (.ref i2) ∧ (∃ c1 c2, IsTupOf2 h TO c1 c2) ∧ a.it i1 t1 i h ∧ b.it i2 t2 i h) where
  mem := by simp
  obj := fun i h st c hc => by
    have e' : c = z ∨ c = TI ∨ c = TO ∨ c = i1 ∨ c = i2 := by simpa using hc
    obtain ⟨hz, hT, ⟨c1, c2, hO⟩, h1, h2⟩ := st
    rcases e' with q | q | q | q | q
    · rw [q]; exact ⟨_, hz, fun v q => nomatch q⟩
    · rw [q]; exact ⟨_, hT, fun v q => nomatch q⟩
    · rw [q]; exact ⟨_, hO, fun v q => nomatch q⟩
    · rw [q]; exact src_cell h1
    · rw [q]; exact src_cell h2
  keep := fun i h h' st k => let ⟨hz, hT, ⟨c1, c2, hO⟩, h1, h2⟩ := st
    ⟨k z (by simp) _ hz, k TI (by simp) _ hT, ⟨c1, c2, k TO (by simp) _ hO⟩, src_keep h1 fun o q => k i1 (by simp) o q, src_keep h2 fun o q => k i2 (by simp) o q⟩
  item := by
    intro X hP hw hK hc i pins s σ H E I hf st hg
    subst hP hw hK
    obtain ⟨hz, hT, hO, h1, h2⟩ := st
    obtain ⟨xs, ys, hx, hy, hi⟩ := hg
    obtain ⟨fp1, P1, St1, D1⟩ := Src.draws I hc hx h1 a1
    obtain ⟨fp2, P2, St2, D2⟩ := Src.draws I hc hy h2 b2
    have sep : ZipSep2 z TI TO i1 i2 fp1 fp2 := ⟨TIz, TOz, TITO, TIi1, D1.mem, D1.only z zi1 az, D1.only TO TOi1 aO, TIi2, D2.mem, D2.only z zi2 bz, D2.only TO TOi2 bO, D2.only i1 i12 b1, D1.only i2 (Ne.symm i12) a2⟩
    have lt : ∀ c ∈ [z, TI, TO, i1, i2], c < s.heap.objs.size := fun c hc => by
      have e' : c = z ∨ c = TI ∨ c = TO ∨ c = i1 ∨ c = i2 := by simpa using hc
      obtain ⟨c1, c2, hO⟩ := hO
      rcases e' with q | q | q | q | q
      · rw [q]; exact Heap.lt_size hz
      · rw [q]; exact Heap.lt_size hT
      · rw [q]; exact Heap.lt_size hO
      · rw [q]; obtain ⟨o, q, _⟩ := src_cell h1; exact Heap.lt_size q
      · rw [q]; obtain ⟨o, q, _⟩ := src_cell h2; exact Heap.lt_size q
    refine (GoesN.zip2 (elts := elts) (x1 := kk) (pos := tpos) sep D1.d D2.d).goes i s _ E hi ⟨hz, hT, hO, D1.st, D2.st⟩ fun v h' tk' hY st' hk _ => ?_
    obtain ⟨p, u1, u2, rfl, hp, hu1, hu2, hTp⟩ := hY
    obtain ⟨x, ex, rx⟩ := D1.val i u1 hu1
    obtain ⟨y, ey, ry⟩ := D2.val i u2 hu2
    have new : ObjOk X.prog X.w (upd H p (.tup [x, y])) h' p (.tup [x, y]) := ⟨by show 2 ≤ sizeLine; decide, [u1, u2], .cons rx (.cons ry .nil), hTp⟩
    have hk' : ∀ b o, b ∉ [z, TI, TO, i1, i2] → s.heap.get? b = some o → h'.get? b = some o := fun b o hb => hk b o fun q => hb (by
      have e' : b = z ∨ b = TO ∨ b = i1 ∨ b = i2 := by simpa using q
      rcases e' with q | q | q | q <;> rw [q] <;> simp)
    refine ⟨.ref p, _, I.turnedNew (ch := [z, TI, TO, i1, i2]) (t' := tk') hk' hf hp new, rfl, ⟨p, x, y, rfl, I.hok.fresh hp, rfl, fun ws hws => by rw [Src.inj I hws hx]; exact ex, fun ws hws => by rw [Src.inj I hws hy]; exact ey⟩, ⟨st'.1, st'.2.1, st'.2.2.1, D1.back _ _ st'.2.2.2.1, D2.back _ _ st'.2.2.2.2⟩, fun c hc => ?_⟩
    rw [upd_ne (Nat.ne_of_lt (Nat.lt_of_lt_of_le (lt c hc) hp))]
    exact (hf c hc).1
  done := by
    intro X hP hw hK hc i pins s σ H E I hf st hg
    subst hP hw hK
    obtain ⟨hz, hT, hO, h1, h2⟩ := st
    obtain ⟨xs, ys, hx, hy, hi⟩ := hg
    subst hi
    obtain ⟨fp1, P1, St1, D1⟩ := Src.draws I hc hx h1 a1
    obtain ⟨fp2, P2, St2, D2⟩ := Src.draws I hc hy h2 b2
    have sep : ZipSep2 z TI TO i1 i2 fp1 fp2 := ⟨TIz, TOz, TITO, TIi1, D1.mem, D1.only z zi1 az, D1.only TO TOi1 aO, TIi2, D2.mem, D2.only z zi2 bz, D2.only TO TOi2 bO, D2.only i1 i12 b1, D1.only i2 (Ne.symm i12) a2⟩
    refine thn ((GoesN.zip2 (elts := elts) (x1 := kk) (pos := tpos) sep D1.d D2.d).stops s (fun s' => Inv X pins σ H s') E ⟨hz, hT, hO, D1.st, D2.st⟩ fun h' tk' hk _ => ?_) fun _ _ q => q
    have hk' : ∀ b o, b ∉ [z, TI, TO, i1, i2] → s.heap.get? b = some o → h'.get? b = some o := fun b o hb => hk b o fun q => hb (by
      have e' : b = z ∨ b = TO ∨ b = i1 ∨ b = i2 := by simpa using q
      rcases e' with q | q | q | q <;> rw [q] <;> simp)
    exact I.turnedL (ch := [z, TI, TO, i1, i2]) (t' := tk') hk' hf
  self := fun A i s Q E st h => let ⟨hz, _⟩ := st; wpAny_pyIter_zip hz h
def zipT (xs ys : List T) : List T := xs.zipWith (fun x y => T.tup [x, y]) ys
theorem walkT_z {K : PySem.W.Frag} {am : Option Addr} {Hs : Hp} {a b : Src} {vs ws : List V} {xs ys : List T} (h : a.at_ K Hs vs) (r : Reps K am Hs xs vs) (h' : b.at_ K Hs ws) (r' : Reps K am Hs ys ws) : WalkT K am Hs (ItZ K a b) (zipT xs ys) where
  goes := fun i H hi s => ⟨vs, ws, src_mono s h, src_mono s h', by rw [← r.length, ← r'.length]; simpa [zipT] using hi⟩
  stops := fun H s => ⟨vs, ws, src_mono s h, src_mono s h', by simp [zipT, r.length, r'.length]⟩
  yields := fun i H x H' Hs1 n1 hi sp s y => by
    obtain ⟨p, v, u, rfl, hp, rfl, y1, y2⟩ := y
    obtain ⟨t, e, q⟩ := r.getV (y1 vs (src_mono (s.trans sp.sub) h))
    obtain ⟨t', e', q'⟩ := r'.getV (y2 ws (src_mono (s.trans sp.sub) h'))
    refine ⟨_, .tup [t, t'], Ext.lay sp hp _, ?_, rep_tup_new sp hp (Reps.mk_cons (Rep.mono s _ _ q) (Reps.mk_cons (Rep.mono s _ _ q') (Reps.nil_iff.mpr rfl)))⟩
    unfold zipT
    rw [List.getElem?_zipWith, e, e']
def wiZip (fs : WA) : WI := fun ts n S => fs ts n fun xs n1 => match xs with
  | [x, y] => itemsT x fun us => itemsT y fun ws => S (zipT us ws) n1
  | _ => False
theorem src_begin {X : Cx} {pins : List (Addr × Obj)} {σ : L2.St} {H : Hp} {s : Shared} (I : Inv X pins σ H s) {src : Src} {xs : List V} (h : src.at_ X.K H xs) {v : Value} (r : RelV src.v v) :
    ∃ (o : Obj) (Hc : Heap → Prop) (tk : Tok), Begins v o Hc ∧ Hc s.heap ∧ (∀ (it : Addr) (h' : Heap), h'.get? it = some o → src.it it tk 0 h') ∧ ∀ c, s.heap.objs.size ≤ c → src.ne c := by
  cases src with
  | l a =>
    cases r
    obtain ⟨its, rv, pl, hz⟩ := I.list h
    exact ⟨_, _, 0, begins_list a its.toArray, pl.isList, fun it h' e => ⟨_, e, rfl, rfl⟩, fun c hc => Nat.ne_of_lt (Nat.lt_of_lt_of_le pl.lt hc)⟩
  | t a =>
    cases r
    obtain ⟨its, rv, pl, hz⟩ := I.tuple h
    exact ⟨_, _, 0, begins_tuple a its.toArray, pl, fun it h' e => ⟨_, e, rfl, rfl⟩, fun c hc => Nat.ne_of_lt (Nat.lt_of_lt_of_le (by obtain ⟨o, e, _⟩ := pl; exact Heap.lt_size e) hc)⟩
  | s x =>
    obtain ⟨t, rfl⟩ := r
    exact ⟨_, _, t, begins_text x t, trivial, fun it h' e => ⟨_, e, rfl, rfl⟩, fun c hc => trivial⟩
section
variable {X : Cx} {e e2 : Expr} {fs : WA} {p pos tpos : Pos} {elts : List Expr} {kk : Nat}
theorem qi_zip (hg : Gl X "zip") (hm : X.mg "zip" = none) (ha : QA X [e, e2] fs) (hs : starEach [e, e2] X.env = (false, eval e X.env) :: starEach [e2] X.env := by rfl) (hpl : (backTo pos (starEach [e2] X.env)).any (·.1) = false := by rfl) : QI X (.Tuple elts kk tpos) (.Call (.Name "zip" p) [e, e2] [] pos) (wiZip fs) := by
  refine ⟨fun pins s σ H R I h => ?_⟩
  obtain ⟨am, Hs, ts, n, S, sp, re, h, k⟩ := h
  refine Call_ (ld_blt I hg hm PyProof.Rows.boot_zip (PyProof.Rows.callWith_type1 (thn (ha.run pos pins s σ H (fun vs H1 => ∃ a b ys zs, vs = [Src.v a, Src.v b] ∧ a.at_ X.K H1 ys ∧ b.at_ X.K H1 zs ∧ R (ItZ X.K a b) H1) I ⟨am, Hs, ts, n, _, sp, re, h, fun xs n1 hx vs Hs1 H1 e1 rx => ?_⟩) fun us s1 ⟨vs, H1, I1, r1, a, b, ys, zs, ev, ha1, hb1, q⟩ => ?_) hs hpl))
  · split at hx
    · rename_i x y
      obtain ⟨v, rr, rfl, r1, r2⟩ := Reps.cons_iff.mp rx
      obtain ⟨v2, rfl, r3⟩ := r2.one
      obtain ⟨us, hy, a, ws, rfl, h1, h2, _⟩ := srcOf r1 hx
      obtain ⟨us2, hy2, b, ws2, rfl, h3, h4, _⟩ := srcOf r3 hy
      exact ⟨a, b, ws, ws2, rfl, src_mono e1.spl.sub h1, src_mono e1.spl.sub h3, k _ n1 hy2 _ Hs1 H1 e1 (walkT_z h1 h2 h3 h4)⟩
    · exact hx.elim
  · subst ev
    cases r1 with
    | cons ra rr =>
      cases rr with
      | cons rb rr =>
        cases rr
        obtain ⟨o1, C1, t1, B1, c1, i1, n1⟩ := src_begin I1 ha1 ra
        obtain ⟨o2, C2, t2, B2, c2, i2, n2⟩ := src_begin I1 hb1 rb
        refine zip_begins2 B1 B2 c1 c2 fun h' hz hT hO g1 g2 hsz hk => wpAny_pyIter_zip hz ?_
        have le : ∀ c, c ∈ [s1.heap.objs.size + 4, s1.heap.objs.size + 2, s1.heap.objs.size + 3, s1.heap.objs.size, s1.heap.objs.size + 1] → s1.heap.objs.size ≤ c := fun c hc => by
          have e' : c = s1.heap.objs.size + 4 ∨ c = s1.heap.objs.size + 2 ∨ c = s1.heap.objs.size + 3 ∨ c = s1.heap.objs.size ∨ c = s1.heap.objs.size + 1 := by simpa using hc
          omega
        have ne : ∀ {c d : Nat}, c ≠ d → s1.heap.objs.size + c ≠ s1.heap.objs.size + d := fun h z => h (Nat.add_left_cancel z)
        exact ⟨s1.heap.objs.size + 4, [s1.heap.objs.size + 4, s1.heap.objs.size + 2, s1.heap.objs.size + 3, s1.heap.objs.size, s1.heap.objs.size + 1], _, _, H1, rfl, I1.kept (t' := s1.toks) hk,
          turn_z (z := s1.heap.objs.size + 4) (TI := s1.heap.objs.size + 2) (TO := s1.heap.objs.size + 3) (i1 := s1.heap.objs.size) (i2 := s1.heap.objs.size + 1) (t1 := t1) (t2 := t2) (ne (c := 2) (d := 4) (by decide)) (ne (c := 3) (d := 4) (by decide)) (ne (c := 2) (d := 3) (by decide)) (ne (c := 2) (d := 0) (by decide)) (ne (c := 2) (d := 1) (by decide)) (ne (c := 4) (d := 0) (by decide)) (ne (c := 4) (d := 1) (by decide)) (ne (c := 3) (d := 0) (by decide)) (ne (c := 3) (d := 1) (by decide)) (ne (c := 0) (d := 1) (by decide)) (n1 _ (by omega)) (n1 _ (by omega)) (n1 _ (by omega)) (n1 _ (by omega)) (n1 _ (by omega)) (n2 _ (by omega)) (n2 _ (by omega)) (n2 _ (by omega)) (n2 _ (by omega)) (n2 _ (by omega)),
          ⟨hz, hT, ⟨_, _, hO⟩, i1 _ _ g1, i2 _ _ g2⟩, fun c hc => I1.fpOk (le c hc) (I1.hok.fresh (le c hc)), q⟩
end
end TL
namespace TL
open PySem PySem.Spec PyProof.Rows L2
variable [Mach] [CN] [Xw]
/-! ### calls with keywords -/
def pickL {α : Type} (perm : List Nat) (l : List α) : List α := perm.filterMap fun i => l[i]?
def gK {α : Type} (a b : Nat) (perm : List Nat) (us ws : List α) : List α := if us.length = a ∧ ws.length = b then pickL perm (us ++ ws) else []
theorem vals_app : ∀ {xs ys : List V} {us ws : List Value}, Vals xs us → Vals ys ws → Vals (xs ++ ys) (us ++ ws)
  | _, _, _, _, .nil, h => h
  | _, _, _, _, .cons r t, h => .cons r (vals_app t h)
theorem vals_pick : ∀ (perm : List Nat) {xs : List V} {us : List Value}, Vals xs us → Vals (pickL perm xs) (pickL perm us)
  | [], _, _, _ => .nil
  | i :: r, xs, us, h => by
    unfold pickL
    rw [List.filterMap_cons, List.filterMap_cons]
    cases e : xs[i]? with
    | none =>
      have l : xs.length ≤ i := List.getElem?_eq_none_iff.mp e
      rw [List.getElem?_eq_none (by rw [← h.length]; exact l)]
      exact vals_pick r h
    | some x =>
      obtain ⟨u, e1, e2⟩ := h.get e
      rw [e1]
      exact .cons e2 (vals_pick r h)
def CalS (P : Program) (w : World) (K : PySem.W.Frag) (mg : Str → Option Value) (base : Heap) (k : Nat) (x : Str) (st : Stmt) (ps : List Str) (F : FT) : Prop := ∃ f fd, Fun K x x st f fd ∧ FnT P w K mg base k f fd ps (spT K F) ∧ mg x = some (.ref f)
def KCal (P : Program) (w : World) (K : PySem.W.Frag) (mg : Str → Option Value) (base : Heap) (k : Nat) (x : Str) (ps ks : List Str) (a : Nat) (perm : List Nat) (F : FT) : Prop :=
  ∃ f fd, FnT P w K mg base k f fd ps (spT K F) ∧ mg x = some (.ref f) ∧ PySem.W.keepIn K (.ref f) = true ∧ KBinds K fd ps ks (gK a ks.length perm) (gK a ks.length perm)
section
variable {P : Program} {w : World} {K : PySem.W.Frag} {mg : Str → Option Value} {base : Heap}
theorem calS {x : Str} {st : Stmt} {N ps : List Str} {k : Nat} {F : FT} (D : Def K mg x st) (S : FnScope N ps (defScope st)) (hlen : ∀ ts n R RE, F ts n R RE → ts.length = ps.length) (W : XE → WS)
    (hbody : ∀ (f : Addr) (cdv : Value) (A : Around) (outer : List PySem.Env) (s : Shared) (H : Hp) (E : XK) [Xw] [XwI], Takes (cxT P w K mg base N x st f cdv A outer s H E) Xw.W → Owns (cxT P w K mg base N x st f cdv A outer s H E) → A.guards = some [] → Room k (A.deeper (PyProof.Rows.envOfC x (defScope st) s.heap.objs.size f cdv)) → QSs (cxT P w K mg base N x st f cdv A outer s H E) (defBody st) (W Xw.RE))
    (hspec : ∀ ts n R RE, F ts n R RE → W RE { nx := fun _ n => R .non n, rt := R } (startT N ts) n) : CalS P w K mg base (k + 1) x st ps F := by
  obtain ⟨f, fd, G, hm⟩ := D
  exact ⟨f, fd, G, okT G S hlen W (hbody f) hspec, hm⟩
theorem CalS.cal {x : Str} {st : Stmt} {ps : List Str} {k : Nat} {F : FT} (C : CalS P w K mg base k x st ps F)
    (hb : ∀ (kV doc pm : Value) (an : Option Addr) (cdv ct : Value) (us : List Value), us.length = ps.length → bindArgs (PySem.W.fnOf x x (defArgs st) (defBody st) (defScope st) .none kV doc pm an cdv ct) ⟨us, []⟩ = pure (ps.zip us)) : Cal P w K mg base k x ps F := by
  obtain ⟨f, fd, G, o, hm⟩ := C
  exact ⟨f, fd, o, hm, G.kp, G.binds hb⟩
theorem CalS.kcal {x : Str} {st : Stmt} {ps ks : List Str} {k a : Nat} {perm : List Nat} {F : FT} (C : CalS P w K mg base k x st ps F) (h0 : ps ≠ [])
    (hb : ∀ (kV doc pm : Value) (an : Option Addr) (cdv ct : Value) (us ws : List Value), us.length = a → ws.length = ks.length → bindArgs (PySem.W.fnOf x x (defArgs st) (defBody st) (defScope st) .none kV doc pm an cdv ct) ⟨us, ks.zip ws⟩ = pure (ps.zip (pickL perm (us ++ ws)))) : KCal P w K mg base k x ps ks a perm F := by
  obtain ⟨f, fd, G, o, hm⟩ := C
  refine ⟨f, fd, o, hm, G.kp, ⟨fun s us ws KX hl => ?_, fun {vs us zs ws} r rz => ?_⟩⟩
  · unfold gK at hl ⊢
    split at hl
    · rename_i c
      rw [if_pos c]
      obtain ⟨⟨oc, od, kV, doc, pm, an, cdv, ct, osl, rfl, l, c2⟩, _⟩ := G
      exact .of_eq (hb kV doc pm an cdv ct us ws c.1 c.2)
    · exfalso
      cases ps with
      | nil => exact h0 rfl
      | cons _ _ => cases hl
  · unfold gK
    rw [r.length, rz.length]
    split
    · exact vals_pick perm (vals_app r rz)
    · exact .nil
end
theorem reps_pick {K : PySem.W.Frag} {am : Option Addr} {H : Hp} : ∀ (perm : List Nat) {xs : List T} {us : List V}, Reps K am H xs us → Reps K am H (pickL perm xs) (pickL perm us)
  | [], _, _, _ => Reps.nil_iff.mpr rfl
  | i :: r, xs, us, h => by
    unfold pickL
    rw [List.filterMap_cons, List.filterMap_cons]
    cases e : xs[i]? with
    | none =>
      have l : xs.length ≤ i := List.getElem?_eq_none_iff.mp e
      rw [List.getElem?_eq_none (by rw [← h.length]; exact l)]
      exact reps_pick r h
    | some x =>
      obtain ⟨u, e1, e2⟩ := h.get e
      rw [e1]
      exact Reps.mk_cons e2 (reps_pick r h)
theorem reps_gK {K : PySem.W.Frag} {am : Option Addr} {H : Hp} {a b : Nat} {perm : List Nat} {xs ys : List T} {us ws : List V} (h : Reps K am H xs us) (h' : Reps K am H ys ws) : Reps K am H (gK a b perm xs ys) (gK a b perm us ws) := by
  unfold gK
  rw [h.length, h'.length]
  split
  · exact reps_pick perm (h.append h')
  · exact Reps.nil_iff.mpr rfl
abbrev QK (X : Cx) (kws : List Keyword) (f : WA) : Prop := PK X kws (tTA X.K f)
theorem PK.imp {X : Cx} {e : List Keyword} {t u : TA} (h : PK X e t) (k : ∀ σ H Q, u σ H Q → t σ H Q) : PK X e u := ⟨fun pos pins s σ H Q I q => h.run pos pins s σ H Q I (k σ H Q q)⟩
def wCallK (E : XE) (F : FT) (a b : Nat) (perm : List Nat) (fa fk : WA) : WE := fun ts n R => fa ts n fun xs n1 => fk ts n1 fun ys n2 => F (gK a b perm xs ys) n2 R E
section
variable {X : Cx} {j k a : Nat} {ps ks : List Str} {perm : List Nat} {F : FT} {x : Str} {p pos kpos : Pos} {e : Expr} {es : List Expr} {kws : List Keyword} {nm : Option Str} {f : WE} {fs fa fk : WA}
theorem qk_nil : QK X [] wNil := PK.imp pk_nil fun σ H Q ⟨am, Hs, ts, n, R, sp, re, h, k⟩ => k [] n h [] Hs H (Ext.refl sp) (Reps.nil_iff.mpr rfl)
theorem qk_cons (ha : QE X e f) (hr : QK X kws fs) : QK X (⟨nm, e, kpos⟩ :: kws) (wCons f fs) := PK.imp (pk_cons ha hr) fun σ H Q ⟨am, Hs, ts, n, R, sp, re, h, k⟩ => by
  refine ⟨am, Hs, ts, n, _, sp, re, h, fun x n1 hx vx Hs1 H1 e1 rx => ⟨am, Hs1, ts, n1, _, e1.spl, re.ext e1, hx, fun y n2 hy vy Hs2 H2 e2 ry => ?_⟩⟩
  exact k _ n2 hy _ Hs2 H2 (e1.trans e2) (Reps.mk_cons (Rep.mono e2.same _ _ rx) ry)
theorem run_fnTk {pins : List (Addr × Obj)} {σ : L2.St} {H : Hp} {s : Shared} {Q : VK} {us ws : List Value} {vs zs : List V} {g : List Value → List Value → List Value} {gV : List V → List V → List V} {f : Addr} {fd : FuncData} {sp : Sp} {W : WX} (G : FnT X.prog X.w X.K X.mg X.base k f fd ps sp) (hgd : X.A.guards = some []) (hr : Room k X.A) (hb : KBinds X.K fd ps ks g gV)
    (tk : Takes X W) (I : Inv X pins σ H s) (r : Vals vs us) (rz : Vals zs ws) (h : sp (gV vs zs) H Q (fun cls d H' => W cls d σ H')) : wpAny (model X.prog X.w) X.A (call (.ref f) us (ks.zip ws)) (EP X pins σ Q) X.xe s := by
  have q2 := hb.rel r rz
  refine wpAny_call (codeAny_mono (G.run X.A X.stack s H ⟨us, ks.zip ws⟩ _ _ Q _ hgd hr I.env0 (hb.to s us ws I.kIn (by rw [← q2.length]; exact G.len _ _ _ _ h)) q2 h) fun z s' hq => ?_)
  cases z with
  | error e => exact tk e s' (XE.of_call I (fun _ _ _ h => h) hq)
  | ok fl =>
    cases fl with
    | ret u => exact I.after hq
    | _ => exact False.elim hq
theorem q_calK (tk : Takes X Xw.W) (hgd : X.A.guards = some []) (C : KCal X.prog X.w X.K X.mg X.base k x ps ks a perm F) (hr : Room j X.A) (hj : k ≤ j) (hg : Gl X x) (ha : QA X (e :: es) fa) (hkw : QK X kws fk) (hks : (backToKw pos (keywordEach kws X.env)).filterMap (·.1) = ks := by rfl) (hall : (backToKw pos (keywordEach kws X.env)).all (·.1.isSome) = true := by rfl)
    (hdb : (x == ("__debug__" : Str)) = false := by decide) (he : starEach (e :: es) X.env = (false, eval e X.env) :: starEach es X.env := by rfl)
    (hpl : ((backTo pos (starEach (e :: es) X.env)).any (·.1) || (backToKw pos (keywordEach kws X.env)).any (·.1.isNone)) = false := by rfl) : QE X (.Call (.Name x p) (e :: es) kws pos) (wCallK Xw.RE F a ks.length perm fa fk) := by
  obtain ⟨f, fd, G, hm, hk, hb⟩ := C
  refine ⟨fun pins s σ H Q I h => wpAny_Call_Name_kw (ld_glob I hg hm ?_ hdb)⟩
  obtain ⟨am, Hs, ts, n, R, sp, re, h, k⟩ := h
  refine PySem.W.callWith_KW (h₀ := X.base) I.ok.mod.kin hk hall (thn (ha.run pos pins s σ H (fun vs H1 => tTA X.K fk σ H1 fun zs H2 => spT X.K F (gK a ks.length perm vs zs) H2 Q fun cls d H' => Xw.W cls d σ H') I ⟨am, Hs, ts, n, _, sp, re, h, fun xs n1 hx vx Hs1 H1 e1 rx => ⟨am, Hs1, ts, n1, _, e1.spl, re.ext e1, hx, fun ys n2 hy vy Hs2 H2 e2 ry => ?_⟩⟩) fun us s1 ⟨vs, H1, I1, r, q⟩ => ?_) hpl he
  · exact spT_at re k (e1.trans e2) (reps_gK (Reps.mono e2.same _ _ rx) ry) hy
  · refine thn (hkw.run pos pins s1 σ H1 _ I1 q) fun ws s2 ⟨zs, H2, I2, rz, q2⟩ => ⟨I2.kIn, ?_⟩
    rw [hks]
    exact run_fnTk G hgd (hr.mono hj) hb tk I2 r rz q2
theorem q_calK0 (tk : Takes X Xw.W) (hgd : X.A.guards = some []) (C : KCal X.prog X.w X.K X.mg X.base k x ps ks 0 perm F) (hr : Room j X.A) (hj : k ≤ j) (hg : Gl X x) (hkw : QK X kws fk) (hks : (backToKw pos (keywordEach kws X.env)).filterMap (·.1) = ks := by rfl) (hall : (backToKw pos (keywordEach kws X.env)).all (·.1.isSome) = true := by rfl)
    (hdb : (x == ("__debug__" : Str)) = false := by decide)
    (hpl : ((backTo pos (starEach [] X.env)).any (·.1) || (backToKw pos (keywordEach kws X.env)).any (·.1.isNone)) = false := by rfl) : QE X (.Call (.Name x p) [] kws pos) (wCallK Xw.RE F 0 ks.length perm wNil fk) := by
  obtain ⟨f, fd, G, hm, hk, hb⟩ := C
  refine ⟨fun pins s σ H Q I h => ?_⟩
  obtain ⟨am, Hs, ts, n, R, sp, re, h, kk⟩ := h
  refine wpAny_Call_Name_kw (ld_glob I hg hm ?_ hdb)
  refine PySem.W.callWith_KW0 (h₀ := X.base) I.ok.mod.kin hk hall (thn (hkw.run pos pins s σ H (fun zs H2 => spT X.K F (gK 0 ks.length perm [] zs) H2 Q fun cls d H' => Xw.W cls d σ H') I ⟨am, Hs, ts, n, _, sp, re, h, fun ys n2 hy vy Hs2 H2 e2 ry => ?_⟩) fun ws s2 ⟨zs, H2, I2, rz, q2⟩ => ⟨I2.kIn, ?_⟩) hpl
  · exact spT_at re kk e2 (reps_gK (Reps.nil_iff.mpr rfl) ry) hy
  · rw [hks]
    exact run_fnTk (us := []) (vs := []) G hgd (hr.mono hj) hb tk I2 .nil rz q2
end
end TL
namespace TL
open PySem PySem.Spec PyProof.Rows L2
variable [Mach] [CN] [Xw]
section
variable {X : Cx} {pos : Pos}
theorem qf_dnew : QF X (.Dict [] [] pos) (wC (.dct [])) := PE.imp pe_dnewK fun σ H Q ⟨am, Hs, ts, n, R, sp, re, h, k⟩ => fun p hp =>
  k _ n h p Hs _ (Ext.lay1 sp hp _) hp (sp.sub.free hp) (mc_new sp hp) ⟨[], upd_same, RepK.nil_iff.mpr rfl⟩
end
/-! l[i] = v as a target, l one's own -/
def wgStL (i : Nat) (fk : WE) : WG := fun r ts n R => match ts[i]? with
  | some (.own (.lst xs)) => fk ts n fun k n1 => match k with
    | .int j => match ixN xs.length j with
      | some m => R (ts.set i (.own (.lst (xs.set m r)))) n1
      | none => False
    | _ => False
  | _ => False
section
variable {X : Cx} {x : Str} {ek : Expr} {fk : WE} {p pos : Pos}
theorem qg_stL (i : Nat) (hv : PE X (.Name x p) (tVar i)) (hk : @QE _ _ Xw.no X ek fk)
    (ha : ∀ v, assign (.Subscript (.Name x p) ek pos) X.env v = (do
      let ov ← holding [v] (eval (.Name x p) X.env)
      let iv ← holding [v, ov] (eval ek X.env)
      standAt pos
      holding [v, ov, iv] (setItem ov iv v)
      release [v, ov, iv] []) := by intro _; rfl) : QG X (.Subscript (.Name x p) ek pos) (wgStL i fk) :=
  PG.imp (pg_sub hv hk set_list ha) fun v σ H Q ⟨am, H0, Hs0, Hs, ts, n, r, R, y, b, rv, h, kk⟩ => by
    unfold wgStL at h
    split at h
    rotate_left
    · exact h.elim
    rename_i xs e0
    obtain ⟨l, e1, e2, e3, kv0, e4, e5⟩ := b.re.at_ i _ e0
    refine ⟨.ref l, e1, am, Hs, ts, n, _, y.spl, b.re.no, h, fun k n1 hk' vk Hs1 H1 y1 rk => ?_⟩
    have b1 := b.ext y1
    obtain ⟨l', f1, f2, f3, kv1, f4, f5⟩ := b1.re.at_ i _ e0
    rw [e1] at f1
    cases f1
    split at hk'
    · split at hk'
      · rename_i j _ m em
        simp only [Rep] at rk
        have yy := y.trans y1
        refine ⟨l, kv1, j, m, rfl, rk, f4, by rw [← f5.length]; exact em, kk _ n1 hk' σ Hs1 _ (yy.mut (b.nw i _ l e0 e1) f2 f3 _) y1.same ?_⟩
        exact b1.updOwn (t' := .lst (xs.set m r)) y1.spl e0 e1 ⟨_, upd_same, f5.set m (Rep.mono y1.same _ _ rv)⟩
      · exact hk'.elim
    · exact hk'.elim
end
/-! sorted -/
def intsOf : List T → Option (List Int)
  | [] => some []
  | .int b :: r => (intsOf r).map (b :: ·)
  | _ :: _ => none
theorem intsOf_map : ∀ {ts : List T} {bs : List Int}, intsOf ts = some bs → ts = bs.map T.int
  | [], bs, e => by cases e; rfl
  | t :: r, bs, e => by
    cases t with
    | int b =>
      simp only [intsOf] at e
      cases q : intsOf r with
      | none => rw [q] at e; cases e
      | some cs => rw [q] at e; cases e; rw [intsOf_map q]; rfl
    | _ => cases e
theorem intsOf_of (bs : List Int) : intsOf (bs.map T.int) = some bs := by
  induction bs with
  | nil => rfl
  | cons b r ih => simp only [List.map_cons, intsOf, ih, Option.map_some]
def pSortI : GN := fun xs R => match xs with
  | [.lst ts] => match intsOf ts with
    | some ns => ∀ ns' : List Int, ns'.Perm ns → ns'.Pairwise (· ≤ ·) → R (.lst (ns'.map T.int))
    | none => False
  | _ => False
theorem ok_sortI {K : PySem.W.Frag} : RNOk K (rSortedI K) pSortI := fun am Hs H n x vx R Q sp rx h k => by
  unfold pSortI at h
  split at h
  · split at h
    · rename_i ts _ ns e
      obtain ⟨v, rfl, h1⟩ := rx.one
      simp only [Rep] at h1
      obtain ⟨a, vs, rfl, h3, h4⟩ := h1
      rw [intsOf_map e] at h4
      have ev := h4.ints
      subst ev
      exact ⟨a, ns, rfl, SqL.of (sp.sub _ _ h3), fun ns' p hp hs hn => k.lay sp (h ns' hp hs) hn _ (rep_lst_new sp hn reps_ints)⟩
    · exact h.elim
  · exact h.elim
def pSortD : GN := fun xs R => match xs with
  | [.dct kvs] => ∃ ks : List Str, kvs.map (·.1) = ks.map Sum.inr ∧ ks.length < 64 ∧ ∀ ys : List Str, ys.Perm ks → sortedS ys = true → R (.lst (ys.map T.str))
  | _ => False
theorem repK_keys {K : PySem.W.Frag} {am : Option Addr} {H : Hp} : ∀ {ts : List (Key × T)} {vs : List (Key × V)}, RepK K am H ts vs → vs.map (·.1) = ts.map (·.1)
  | [], vs, h => by rw [RepK.nil_iff.mp h]; rfl
  | (k, t) :: ts, vs, h => by
    obtain ⟨v, r, rfl, _, h2⟩ := RepK.cons_iff.mp h
    rw [List.map_cons, List.map_cons, repK_keys h2]
theorem ok_sortD {K : PySem.W.Frag} : RNOk K (fun xs H Q => ∃ (a : Addr) (kvs : List (Key × V)) (ks : List Str), xs = [V.ref a] ∧ Rd H a (.dK kvs) ∧ kvs.map (·.1) = ks.map Sum.inr ∧ ks.length < 64 ∧
    ∀ ys p, ys.Perm ks → sortedS ys = true → H p = none → Q (.ref p) (upd H p (.lst (ys.map V.str)))) pSortD := fun am Hs H n x vx R Q sp rx h k => by
  unfold pSortD at h
  split at h
  · obtain ⟨ks, h5, h6, h7⟩ := h
    obtain ⟨v, rfl, h1⟩ := rx.one
    simp only [Rep] at h1
    obtain ⟨a, vs, rfl, h3, h4⟩ := h1
    exact ⟨a, vs, ks, rfl, same_rd sp.sub h3, (repK_keys h4).trans h5, h6, fun ys p hp hs hn => k.lay sp (h7 ys hp hs) hn _ (rep_lst_new sp hn reps_strs)⟩
  · exact h.elim
/-! int(text), list.index -/
def pIntS : GN := fun xs R => match xs with
  | [.str a] => match PySem.intText? a with
    | some n => a.length ≤ 640 ∧ R (.int n)
    | none => False
  | _ => False
theorem ok_intS {K : PySem.W.Frag} : RNOk K (fun xs H Q => ∃ a n, xs = [V.str a] ∧ PySem.intText? a = some n ∧ a.length ≤ 640 ∧ Q (.int n) H) pIntS := fun am Hs H n x vx R Q sp rx h k => by
  unfold pIntS at h
  split at h
  · split at h
    · rename_i e
      obtain ⟨v, rfl, h1⟩ := rx.one
      simp only [Rep] at h1
      subst h1
      exact ⟨_, _, rfl, e, h.1, k.here sp h.2 (by simp only [Rep])⟩
    · exact h.elim
  · exact h.elim
/-! a.append(b.pop(e)) -/
def wsAppPop (i j : Nat) (f : WE) : WS := fun W ts n => match ts[i]?, ts[j]? with
  | some (.own (.lst xs)), some (.own (.lst ys)) => f ts n fun k n1 => match k with
    | .int c => (-(2 ^ 63) ≤ c ∧ c < 2 ^ 63) ∧ match seqIndex? c ys.length with
      | some m => match ys[m]? with
        | some y => xs.length < sizeLine ∧ W.nx ((ts.set j (.own (.lst (ys.eraseIdx m)))).set i (.own (.lst (xs ++ [y])))) n1
        | none => False
      | none => False
    | _ => False
  | _, _ => False
section
variable {X : Cx} {e : Expr} {f : WE} {pos apos cpos apos2 cpos2 p p2 : Pos} {x x2 : Str}
theorem qs_appPop (i j : Nat) (hij : i ≠ j) (hv : PE X (.Name x p) (tVar i)) (hv2 : PE X (.Name x2 p2) (tVar j)) (he : QE X e f) (hbase : attributeBase (.Name x p) "append" X.env (eval (.Name x p) X.env) = eval (.Name x p) X.env := by rfl)
    (hfew : ((backTo cpos (starEach [.Call (.Attribute (.Name x2 p2) "pop" apos2) [e] [] cpos2] X.env)).all (fun x => !x.1) && (backToKw cpos (keywordEach [] X.env)).all (fun x => x.1.isSome)
      && decide ([Expr.Call (.Attribute (.Name x2 p2) "pop" apos2) [e] [] cpos2].length + ([] : List Keyword).length + (if ([] : List Keyword).isEmpty then 0 else 1) < 30)) = true := by rfl)
    (hline : (apos.endLine == cpos.line) = true := by rfl) (hs : starEach [.Call (.Attribute (.Name x2 p2) "pop" apos2) [e] [] cpos2] X.env = (false, eval (.Call (.Attribute (.Name x2 p2) "pop" apos2) [e] [] cpos2) X.env) :: starEach [] X.env := by rfl) (hplain : (backTo cpos (starEach [] X.env)).any (·.1) = false := by rfl)
    (hsw : swapsWith (.Call (.Attribute (.Name x p) "append" apos) [.Call (.Attribute (.Name x2 p2) "pop" apos2) [e] [] cpos2] [] cpos) none pos.line X.env = pure false := by rfl)
    (hbase2 : attributeBase (.Name x2 p2) "pop" X.env (eval (.Name x2 p2) X.env) = eval (.Name x2 p2) X.env := by rfl)
    (hfew2 : ((backTo cpos2 (starEach [e] X.env)).all (fun x => !x.1) && (backToKw cpos2 (keywordEach [] X.env)).all (fun x => x.1.isSome)
      && decide ([e].length + ([] : List Keyword).length + (if ([] : List Keyword).isEmpty then 0 else 1) < 30)) = true := by rfl)
    (hline2 : (apos2.endLine == cpos2.line) = true := by rfl) (hs2 : starEach [e] X.env = (false, eval e X.env) :: starEach [] X.env := by rfl) (hplain2 : (backTo cpos2 (starEach [] X.env)).any (·.1) = false := by rfl) :
    QS X (.Expr (.Call (.Attribute (.Name x p) "append" apos) [.Call (.Attribute (.Name x2 p2) "pop" apos2) [e] [] cpos2] [] cpos) pos) (wsAppPop i j f) :=
  PS.imp (ps_expr (pe_bm PySem.F.plainAttrs_list PySem.F.slot_list_append PySem.F.type_list_append mt_append hv (pa_cons (pe_bm PySem.F.plainAttrs_list PySem.F.slot_list_pop PySem.F.type_list_pop mt_popAt hv2 (pa_cons he pa_nil hs2) hbase2 hfew2 hline2 hs2 hplain2) pa_nil hs) hbase hfew hline hs hplain) hsw) fun D σ H ⟨am, H0, Hs0, ts, n, W, s, h, k, kx⟩ => by
    unfold wsAppPop at h
    split at h
    · rename_i xs ys e0 g0
      obtain ⟨Hs, y, b⟩ := s
      obtain ⟨l, vs, e1, e2, e3, e4, e5, e6⟩ := own_lst b e0
      obtain ⟨q, ws, g1, g2, g3, g4, g5, g6⟩ := own_lst b g0
      refine ⟨.ref l, e1, .inl ⟨rfl, vs, SqL.of e5⟩, .ref q, g1, .inl ⟨rfl, ws, SqL.of g5⟩, tT_at kx ⟨Hs, y, b⟩ h fun r n' hr v Hs' H' y' b' rv => ?_⟩
      split at hr
      · obtain ⟨hc, hr⟩ := hr
        split at hr
        · rename_i c _ m em
          split at hr
          · rename_i z ez
            simp only [Rep] at rv
            obtain ⟨l', vs', f1, f2, f3, f4, f5, f6⟩ := own_lst b' e0
            rw [e1] at f1
            cases f1
            obtain ⟨q', ws', k1, k2, k3, k4, k5, k6⟩ := own_lst b' g0
            rw [g1] at k1
            cases k1
            obtain ⟨u, eu, ru⟩ := k6.get ez
            have nlq : l ≠ q := fun z => b.re.dis i j _ _ l hij e0 g0 e1 (by rw [g1, z])
            have b2 := b'.updOwn (t' := .lst (ys.eraseIdx m)) (o := .lst (ws'.eraseIdx m)) y'.spl g0 g1 ⟨_, upd_same, k6.eraseIdx m⟩
            have y2 := y'.mut (o := .lst (ws'.eraseIdx m)) k4 k2 k3
            have e0' : (ts.set j (.own (.lst (ys.eraseIdx m))))[i]? = some (.own (.lst xs)) := by rw [List.getElem?_set_ne (Ne.symm hij)]; exact e0
            obtain ⟨l2, vs2, d1, d2, d3, d4, d5, d6⟩ := own_lst b2 e0'
            rw [e1] at d1
            cases d1
            refine ⟨q, ws', c, m, u, rfl, by rw [rv], k5, hc.1, hc.2, by rw [← k6.length]; exact em, eu, l, vs2, u, rfl, rfl, d5, by rw [← d6.length]; exact hr.1, k.nx σ _ _ n' ⟨Hs', y2.mut d4 d2 d3 _, b2.updOwn (t' := .lst (xs ++ [z])) y2.spl e0' e1 ⟨_, upd_same, d6.append (Reps.mk_cons ru (Reps.nil_iff.mpr rfl))⟩⟩ hr.2⟩
          · exact hr.elim
        · exact hr.elim
      · exact hr.elim
    · exact h.elim
end
end TL
namespace TL
open PySem L2
variable [Mach] [CN] [Xw]
section
variable (R : T → Prop)
theorem pDGet_s (kvs : List (Key × T)) (k : Str) : pDGet (.dct kvs) (.str k) R = match valT kvs (Sum.inr k) with | some t => R t | none => False := rfl
theorem pDGet_i (kvs : List (Key × T)) (k : Int) : pDGet (.dct kvs) (.int k) R = match valT kvs (Sum.inl k) with | some t => R t | none => False := rfl
end
/-- a loop over a list of known things -/
theorem for_map {α : Type} {f : α → T} {g : WG} {wb : WS} {W : WEnds} {xs : List α} (P : List α → TL.Env → Nat → Prop) (h0 : ∀ ts n, P [] ts n → W.nx ts n)
    (hs : ∀ x r ts n, x ∈ xs → P (x :: r) ts n → ∀ k : TL.Env → Nat → Prop, (∀ ts' n', P r ts' n' → k ts' n') → g (f x) ts n fun ts1 n1 => wb { nx := k, rt := W.rt, bk := W.nx, ct := k } ts1 n1) {ts : TL.Env} {n : Nat} (h : P xs ts n) : wFor g wb W (xs.map f) ts n := by
  refine for_inv (fun rest ts n => ∃ r, rest = r.map f ∧ (∀ x ∈ r, x ∈ xs) ∧ P r ts n) ?_ ?_ _ _ _ ⟨xs, rfl, fun _ h => h, h⟩
  · rintro ts n ⟨r, e, _, hP⟩
    cases r with
    | nil => exact h0 ts n hP
    | cons _ _ => cases e
  · rintro x rest ts n ⟨r, e, hm, hP⟩ k hk
    cases r with
    | nil => cases e
    | cons y r =>
      rw [List.map_cons] at e
      injection e with e1 e2
      subst e1
      exact hs y r ts n (hm y (List.mem_cons_self ..)) hP k fun ts' n' h' => hk ts' n' ⟨r, e2, fun z hz => hm z (List.mem_cons_of_mem _ hz), h'⟩
theorem lc_mapI {α : Type} {f : α → T} {tg : Tgt} {t : WT} {fe : WE} {ts : TL.Env} {R : T → Nat → Prop} {xs : List α} (P : List α → List T → Nat → Prop) (h0 : ∀ acc n, P [] acc n → R (.lst acc) n)
    (hs : ∀ x r acc n, x ∈ xs → P (x :: r) acc n → ∀ k : List T → Nat → Prop, (∀ acc' n', P r acc' n' → k acc' n') → stLc tg t fe ts (f x) acc n k) {n : Nat} (h : P xs [] n) : wLcL tg t fe ts R (xs.map f) [] n := by
  refine lc_inv (fun rest acc n => ∃ r, rest = r.map f ∧ (∀ x ∈ r, x ∈ xs) ∧ P r acc n) ?_ ?_ _ _ _ ⟨xs, rfl, fun _ h => h, h⟩
  · rintro acc n ⟨r, e, _, hP⟩
    cases r with
    | nil => exact h0 acc n hP
    | cons _ _ => cases e
  · rintro x rest acc n ⟨r, e, hm, hP⟩ k hk
    cases r with
    | nil => cases e
    | cons y r =>
      rw [List.map_cons] at e
      injection e with e1 e2
      subst e1
      exact hs y r acc n (hm y (List.mem_cons_self ..)) hP k fun acc' n' h' => hk acc' n' ⟨r, e2, fun z hz => hm z (List.mem_cons_of_mem _ hz), h'⟩
end TL
namespace TL
open PySem PySem.Spec PyProof.Rows L2
variable [Mach] [CN] [Xw]
/-! ### several at once, some of them one's own -/
def RepsF (K : PySem.W.Frag) (am : Option Addr) (H0 Hs H : Hp) : List (Bool × T) → List V → Prop
  | [], vs => vs = []
  | (false, t) :: r, vs => ∃ v w, vs = v :: w ∧ Rep K am Hs t v ∧ RepsF K am H0 Hs H r w
  | (true, t) :: r, vs => ∃ p w, vs = .ref p :: w ∧ H0 p = none ∧ Hs p = none ∧ ¬ MC am H p ∧ OwnAt K am Hs H p t ∧ (∀ (j : Nat) (u : T), r[j]? = some (true, u) → w[j]? ≠ some (.ref p)) ∧ RepsF K am H0 Hs H r w
theorem RepsF.dom {K : PySem.W.Frag} {am : Option Addr} {H0 H1 Hs H : Hp} (h : ∀ a, H1 a = none → H0 a = none) : ∀ {r : List (Bool × T)} {vs : List V}, RepsF K am H1 Hs H r vs → RepsF K am H0 Hs H r vs
  | [], vs, q => q
  | (false, t) :: r, vs, ⟨v, w, e, r1, r2⟩ => ⟨v, w, e, r1, RepsF.dom h r2⟩
  | (true, t) :: r, vs, ⟨p, w, e, h0, h1, h2, h3, h4, r2⟩ => ⟨p, w, e, h p h0, h1, h2, h3, h4, RepsF.dom h r2⟩
theorem RepsF.new {K : PySem.W.Frag} {am : Option Addr} {H0 Hs H : Hp} : ∀ {r : List (Bool × T)} {vs : List V}, RepsF K am H0 Hs H r vs → ∀ (j : Nat) (u : T) (p : Addr), r[j]? = some (true, u) → vs[j]? = some (.ref p) → H0 p = none
  | [], vs, q, j, u, p, e, _ => by simp at e
  | (false, t) :: r, vs, ⟨v, w, e, r1, r2⟩, 0, u, p, e1, _ => by simp at e1
  | (false, t) :: r, vs, ⟨v, w, e, r1, r2⟩, j + 1, u, p, e1, e2 => by subst e; exact RepsF.new r2 j u p (by simpa using e1) (by simpa using e2)
  | (true, t) :: r, vs, ⟨p', w, e, h0, h1, h2, h3, h4, r2⟩, 0, u, p, e1, e2 => by subst e; simp at e2; rw [← e2]; exact h0
  | (true, t) :: r, vs, ⟨p', w, e, h0, h1, h2, h3, h4, r2⟩, j + 1, u, p, e1, e2 => by subst e; exact RepsF.new r2 j u p (by simpa using e1) (by simpa using e2)
abbrev WAF := Env → Nat → (List (Bool × T) → Nat → Prop) → Prop
def tTAF (K : PySem.W.Frag) (f : WAF) : TA := fun σ H Q => ∃ (am : Option Addr) (Hs : Hp) (ts : Env) (n : Nat) (R : List (Bool × T) → Nat → Prop), Spl am Hs H n ∧ RepE K am Hs H σ ts ∧ f ts n R ∧
  ∀ r n', R r n' → ∀ v Hs' H', Ext am Hs H Hs' H' n' → RepsF K am H Hs' H' r v → Q v H'
abbrev QAF (X : Cx) (es : List Expr) (f : WAF) : Prop := PA X es (tTAF X.K f)
def wfNil : WAF := fun _ n R => R [] n
def wfE (fa : WE) (fr : WAF) : WAF := fun ts n R => fa ts n fun x n1 => fr ts n1 fun xs n2 => R ((false, x) :: xs) n2
def wfF (fa : WE) (fr : WAF) : WAF := fun ts n R => fa ts n fun x n1 => fr ts n1 fun xs n2 => R ((true, x) :: xs) n2
section
variable {X : Cx} {e : Expr} {es : List Expr} {f : WE} {fs : WAF}
theorem qaf_nil : QAF X [] wfNil := PA.imp pa_nil fun σ H Q ⟨am, Hs, ts, n, R, sp, re, h, k⟩ => k [] n h [] Hs H (Ext.refl sp) rfl
theorem qaf_e (ha : QE X e f) (hr : QAF X es fs) (hs : starEach (e :: es) X.env = (false, eval e X.env) :: starEach es X.env := by rfl) : QAF X (e :: es) (wfE f fs) := PA.imp (pa_cons ha hr hs) fun σ H Q ⟨am, Hs, ts, n, R, sp, re, h, k⟩ => by
  refine ⟨am, Hs, ts, n, _, sp, re, h, fun x n1 hx vx Hs1 H1 e1 rx => ⟨am, Hs1, ts, n1, _, e1.spl, re.ext e1, hx, fun y n2 hy vy Hs2 H2 e2 ry => ?_⟩⟩
  exact k _ n2 hy _ Hs2 H2 (e1.trans e2) ⟨vx, vy, rfl, Rep.mono e2.same _ _ rx, ry.dom e1.keep.dom⟩
theorem qaf_f (ha : QF X e f) (hr : QAF X es fs) (hs : starEach (e :: es) X.env = (false, eval e X.env) :: starEach es X.env := by rfl) : QAF X (e :: es) (wfF f fs) := PA.imp (pa_cons ha hr hs) fun σ H Q ⟨am, Hs, ts, n, R, sp, re, h, k⟩ => by
  refine ⟨am, Hs, ts, n, _, sp, re, h, fun x n1 hx p Hs1 H1 e1 hp h0 hm ow => ⟨am, Hs1, ts, n1, _, e1.spl, re.ext e1, hx, fun y n2 hy vy Hs2 H2 e2 ry => ?_⟩⟩
  obtain ⟨o, ho⟩ := ow.some
  refine k _ n2 hy _ Hs2 H2 (e1.trans e2) ⟨p, vy, rfl, hp, ?_, fun z => (e2.keep.mc p z).elim hm (fun q => by rw [ho] at q; cases q), ow.ext e2 hm, fun j u e3 e4 => ?_, ry.dom e1.keep.dom⟩
  · cases q : Hs2 p with
    | none => rfl
    | some u => exact ((e2.new p u q).elim (fun z => by rw [h0] at z; cases z) fun z => by rw [ho] at z; cases z)
  · have := ry.new j u p e3 e4
    rw [ho] at this; cases this
end
def putF : List Nat → List (Bool × T) → Env → Env
  | i :: is, (b, t) :: rs, ts => putF is rs (ts.set i (if b = true then .own t else .tr t))
  | _, _, ts => ts
def setF : List Nat → List V → L2.St → L2.St
  | i :: is, v :: vs, σ => setF is vs (σ.set i (some v))
  | _, _, σ => σ
theorem RepB.putF {K : PySem.W.Frag} {am : Option Addr} {Hb Hs H H1 : Hp} (hb : ∀ a, H1 a = none → Hb a = none) : ∀ (is : List Nat) (rs : List (Bool × T)) (vs : List V) (σ : L2.St) (ts : Env), RepB K am Hb Hs H σ ts → RepsF K am H1 Hs H rs vs →
    (∀ (k : Nat) (u : T) (p : Addr), rs[k]? = some (true, u) → vs[k]? = some (.ref p) → ∀ (j : Nat) (t : T), ts[j]? = some (.own t) → σ[j]? ≠ some (some (.ref p))) → RepB K am Hb Hs H (setF is vs σ) (TL.putF is rs ts)
  | [], rs, vs, σ, ts, h, _, _ => by cases rs <;> cases vs <;> exact h
  | i :: is, [], vs, σ, ts, h, r, _ => by cases r; exact h
  | i :: is, (false, t) :: rs, vs, σ, ts, h, ⟨v, w, e, r1, r2⟩, hn => by
    subst e
    refine RepB.putF hb is rs w _ _ (h.set i r1) r2 fun k u p e1 e2 j t' e3 e4 => ?_
    by_cases q : i = j
    · subst q
      rw [if_neg (by decide)] at e3
      by_cases hl : i < ts.length
      · rw [List.getElem?_set_self hl] at e3; cases e3
      · rw [List.getElem?_eq_none (by simpa using hl)] at e3; cases e3
    · rw [List.getElem?_set_ne q] at e3 e4
      exact hn (k + 1) u p (by simpa using e1) (by simpa using e2) j t' e3 e4
  | i :: is, (true, t) :: rs, vs, σ, ts, h, ⟨p0, w, e, h0, h1, h2, h3, h4, r2⟩, hn => by
    subst e
    refine RepB.putF hb is rs w _ _ (h.setOwn i (hb p0 h0) h1 h2 h3 fun j t' _ e3 => hn 0 t p0 (by simp) (by simp) j t' e3) r2 fun k u p e1 e2 j t' e3 e4 => ?_
    by_cases q : i = j
    · subst q
      by_cases hl : i < σ.length
      · rw [List.getElem?_set_self hl] at e4
        cases e4
        exact h4 k u e1 e2
      · rw [List.getElem?_eq_none (by simpa using hl)] at e4; cases e4
    · rw [if_pos rfl, List.getElem?_set_ne q] at e3
      rw [List.getElem?_set_ne q] at e4
      exact hn (k + 1) u p (by simpa using e1) (by simpa using e2) j t' e3 e4
theorem RepsF.length {K : PySem.W.Frag} {am : Option Addr} {H0 Hs H : Hp} : ∀ {r : List (Bool × T)} {vs : List V}, RepsF K am H0 Hs H r vs → vs.length = r.length
  | [], vs, q => by cases q; rfl
  | (false, t) :: r, vs, ⟨v, w, e, r1, r2⟩ => by subst e; simp [RepsF.length r2]
  | (true, t) :: r, vs, ⟨p, w, e, h0, h1, h2, h3, h4, r2⟩ => by subst e; simp [RepsF.length r2]
def wsParF (is : List Nat) (fa : WAF) : WS := fun W ts n => fa ts n fun rs n1 => rs.length = is.length ∧ W.nx (putF is rs ts) n1
theorem tTAF_at {K : PySem.W.Frag} {f : WAF} {am : Option Addr} {H0 Hs0 : Hp} {σ : L2.St} {H : Hp} {ts : Env} {n : Nat} {R : List (Bool × T) → Nat → Prop} {Q : List V → Hp → Prop} (kx : XAt K am H0 Hs0 σ) (s : ST K am H0 Hs0 σ H ts n) (h : f ts n R)
    (k : ∀ r n', R r n' → ∀ vs Hs' H', Ext am Hs0 H0 Hs' H' n' → vs.length = r.length → (∀ is, RepB K am H0 Hs' H' (setF is vs σ) (putF is r ts)) → Q vs H') : tTAF K f σ H Q := by
  obtain ⟨Hs, x, b⟩ := s
  refine ⟨am, Hs, ts, n, R, x.spl, b.x x kx, h, fun r n' hr v Hs' H' y rv => k r n' hr v Hs' H' (x.trans y) rv.length fun is => ?_⟩
  refine RepB.putF (H1 := H) x.keep.dom is r v σ ts (b.ext y) rv fun k u p e1 e2 j t e3 e4 => ?_
  obtain ⟨l, q1, q2, q3, q4⟩ := b.re.at_ j _ e3
  rw [e4] at q1
  cases q1
  obtain ⟨o, ho⟩ := q4.some
  have := rv.new k u p e1 e2
  rw [ho] at this; cases this
section
variable {X : Cx} {fa : WAF} {pos : Pos}
theorem qs_parF {i j : Nat} {x y : Str} {a b : Expr} {px py pt : Pos} {kt k2 pt2} (hc : X.calm = true) (hN : X.N.Nodup) (hi : X.N[i]? = some x) (hj : X.N[j]? = some y) (hij : i ≠ j)
    (hx : X.env.scope.names.lookup x = some .local) (hy : X.env.scope.names.lookup y = some .local) (ha : QAF X [a, b] fa)
    (hw : swappedStores [.Tuple [.Name x px, .Name y py] kt pt] (.Tuple [a, b] k2 pt2) X.env = pure (some [x, y]))
    (hs : swapsWithSole [.Tuple [.Name x px, .Name y py] kt pt] (.Tuple [a, b] k2 pt2) pos.line X.env = pure false := by rfl) :
    QS X (.Assign [.Tuple [.Name x px, .Name y py] kt pt] (.Tuple [a, b] k2 pt2) pos) (wsParF [i, j] fa) := PS.imp (ps_par hc hN hi hj hij hx hy ha hw hs) fun D σ H ⟨am, H0, Hs0, ts, n, W, s, h, k, kx⟩ =>
  tTAF_at kx s h fun r n' hr vs Hs' H' x hl b => by
    obtain ⟨h1, hr⟩ := hr
    have b := b [i, j]
    match vs, hl.trans h1 with
    | [v, w], _ => exact ⟨v, w, rfl, k.nx _ H' _ n' ⟨Hs', x, b⟩ hr⟩
theorem qs_par3F {i j l : Nat} {x y z : Str} {a b c : Expr} {px py pz pt : Pos} {kt k2 pt2} (hc : X.calm = true) (hN : X.N.Nodup) (hi : X.N[i]? = some x) (hj : X.N[j]? = some y) (hl : X.N[l]? = some z) (hij : i ≠ j) (hil : i ≠ l) (hjl : j ≠ l)
    (hx : X.env.scope.names.lookup x = some .local) (hy : X.env.scope.names.lookup y = some .local) (hz : X.env.scope.names.lookup z = some .local) (ha : QAF X [a, b, c] fa)
    (hw : swappedStores [.Tuple [.Name x px, .Name y py, .Name z pz] kt pt] (.Tuple [a, b, c] k2 pt2) X.env = pure (some [x, y, z]))
    (hs : swapsWithSole [.Tuple [.Name x px, .Name y py, .Name z pz] kt pt] (.Tuple [a, b, c] k2 pt2) pos.line X.env = pure false := by rfl) :
    QS X (.Assign [.Tuple [.Name x px, .Name y py, .Name z pz] kt pt] (.Tuple [a, b, c] k2 pt2) pos) (wsParF [i, j, l] fa) := PS.imp (ps_par3 hc hN hi hj hl hij hil hjl hx hy hz ha hw hs) fun D σ H ⟨am, H0, Hs0, ts, n, W, s, h, k, kx⟩ =>
  tTAF_at kx s h fun r n' hr vs Hs' H' x hl b => by
    obtain ⟨h1, hr⟩ := hr
    have b := b [i, j, l]
    match vs, hl.trans h1 with
    | [v, w, u], _ => exact ⟨v, w, u, rfl, k.nx _ H' _ n' ⟨Hs', x, b⟩ hr⟩
end
/-! ### list(range(..)) -/
def rgT (a b : Int) : List T := (List.range (b - a).toNat).map fun i => T.int (a + (i : Nat))
theorem reps_rg {K : PySem.W.Frag} {am : Option Addr} {H : Hp} (a b : Int) : Reps K am H (rgT a b) (rgV a b) := by
  have e1 : rgT a b = ((List.range (b - a).toNat).map fun i => a + (i : Nat)).map T.int := by unfold rgT; rw [List.map_map]; rfl
  have e2 : rgV a b = ((List.range (b - a).toNat).map fun i => a + (i : Nat)).map V.int := by unfold rgV; rw [List.map_map]; rfl
  rw [e1, e2]; exact reps_ints
def wListRng (f : WE) : WE := fun ts n R => f ts n fun x n1 => match x with
  | .int b => RgOk 0 b ∧ R (.lst (rgT 0 b)) n1
  | _ => False
section
variable {X : Cx} {e : Expr} {f : WE} {p p2 pos pos2 : Pos}
theorem qf_listRng (hg : Gl X "list") (hm : X.mg "list" = none) (hg2 : Gl X "range") (hm2 : X.mg "range" = none) (hc : X.calm = true) (ha : QE X e f) (na : starEach [e] X.env = (false, eval e X.env) :: starEach [] X.env := by rfl)
    (nb : starEach [.Call (.Name "range" p2) [e] [] pos2] X.env = (false, eval (.Call (.Name "range" p2) [e] [] pos2) X.env) :: starEach [] X.env := by rfl) :
    QF X (.Call (.Name "list" p) [.Call (.Name "range" p2) [e] [] pos2] [] pos) (wListRng f) := PE.imp (pe_listRg hc hg hm (prg_1 hg2 hm2 ha na) nb) fun σ H Q ⟨am, Hs, ts, n, R, sp, re, h, k⟩ => by
  refine ⟨am, Hs, ts, n, _, sp, re, h, fun x n1 hx vx Hs1 H1 e1 rx => ?_⟩
  split at hx
  · simp only [Rep] at rx
    refine ⟨_, rx, hx.1, fun q hq => k _ n1 hx.2 q Hs1 _ (e1.trans (Ext.lay1 e1.spl hq _)) (e1.keep.dom q hq) (e1.spl.sub.free hq) (mc_new e1.spl hq) ⟨_, upd_same, reps_rg 0 _⟩⟩
  · exact hx.elim
end
/-! ### list.index -/
def mLIdx : T → GN := fun x xs R => match x, xs with
  | .lst ys, [y] => flatT y = true ∧ ys.all flatT = true ∧ ∃ j : Nat, (∃ z, ys[j]? = some z ∧ eqT z y = true) ∧ (∀ m z, m < j → ys[m]? = some z → eqT z y = false) ∧ R (.int (j : Nat))
  | _, _ => False
theorem ok_lidx {K : PySem.W.Frag} : RMOk K (rIndex K) mLIdx := fun am Hs H n x vx y vy R Q sp rx ry h k => by
  unfold mLIdx at h
  split at h
  · rename_i ys z
    obtain ⟨fz, fys, j, ⟨z', e1, e2⟩, e3, hR⟩ := h
    obtain ⟨v, rfl, h1⟩ := ry.one
    simp only [Rep] at rx
    obtain ⟨a, vs, rfl, h3, h4⟩ := rx
    have ev := reps_flat fys h4
    subst ev
    have e4 := rep_flat fz h1
    subst e4
    refine ⟨a, _, toV z, j, toV z', rfl, rfl, SqL.of (sp.sub _ _ h3), flat_toV fz, all_flat_toV fys, by rw [List.getElem?_map, e1]; rfl, e2, fun m w hm hw => ?_, k.here sp hR (by simp only [Rep])⟩
    rw [List.getElem?_map] at hw
    cases q : ys[m]? with
    | none => rw [q] at hw; cases hw
    | some u => rw [q] at hw; cases hw; exact e3 m u hm q
  · exact h.elim
/-! ### int of ints, truths and texts -/
def pIntX : GN := fun xs R => match xs with
  | [.str a] => match PySem.intText? a with
    | some n => a.length ≤ 640 ∧ R (.int n)
    | none => False
  | [.int i] => R (.int i)
  | [.bl b] => R (.int (if b = true then 1 else 0))
  | _ => False
theorem ok_intX {K : PySem.W.Frag} : RNOk K (fun xs H Q => rInt1 xs H Q ∨ ∃ a n, xs = [V.str a] ∧ PySem.intText? a = some n ∧ a.length ≤ 640 ∧ Q (.int n) H) pIntX := fun am Hs H n x vx R Q sp rx h k => by
  unfold pIntX at h
  split at h
  · exact .inr (ok_intS am Hs H n _ vx R Q sp rx h k)
  · exact .inl (ok_int1 am Hs H n _ vx R Q sp rx h k)
  · exact .inl (ok_int1 am Hs H n _ vx R Q sp rx h k)
  · exact h.elim
theorem call_intX {X : Cx} : CallR X (.type "int") (fun xs H Q => rInt1 xs H Q ∨ ∃ a n, xs = [V.str a] ∧ PySem.intText? a = some n ∧ a.length ≤ 640 ∧ Q (.int n) H) := call_int1.or call_int_str
section
variable (R : T → Prop)
theorem pIntX_i (i : Int) : pIntX [.int i] R = R (.int i) := rfl
theorem pIntX_b (i : Bool) : pIntX [.bl i] R = R (.int (if i = true then 1 else 0)) := rfl
theorem pIntX_s (a : Str) : pIntX [.str a] R = match PySem.intText? a with | some n => a.length ≤ 640 ∧ R (.int n) | none => False := rfl
end
/-! sorted: ints or strings -/
def pSortX : GN := fun xs R => match xs with
  | [.lst ts] => match intsOf ts with
    | some ns => ∀ ns' : List Int, ns'.Perm ns → ns'.Pairwise (· ≤ ·) → R (.lst (ns'.map T.int))
    | none => match strsOf ts with
      | some ss => ss.length < 64 ∧ ∀ ys : List Str, ys.Perm ss → sortedS ys = true → R (.lst (ys.map T.str))
      | none => False
  | _ => False
theorem ok_sortX {K : PySem.W.Frag} : RNOk K (fun xs H Q => rSortedI K xs H Q ∨ rSortedS K xs H Q) pSortX := fun am Hs H n x vx R Q sp rx h k => by
  unfold pSortX at h
  split at h
  · split at h
    · rename_i ts _ ns e
      refine .inl ?_
      refine ok_sortI am Hs H n _ vx R Q sp rx ?_ k
      unfold pSortI
      try dsimp only
      rw [e]
      exact h
    · split at h
      · rename_i ts _ _ ss e
        obtain ⟨h6, h⟩ := h
        refine .inr ?_
        obtain ⟨v, rfl, h1⟩ := rx.one
        simp only [Rep] at h1
        obtain ⟨a, vs, rfl, h3, h4⟩ := h1
        rw [strsOf_map e] at h4
        have ev := h4.strs
        subst ev
        exact ⟨a, ss, rfl, SqL.of (sp.sub _ _ h3), h6, fun ys p hp hs hn => k.lay sp (h ys hp hs) hn _ (rep_lst_new sp hn reps_strs)⟩
      · exact h.elim
  · exact h.elim
theorem cr_sortedX {X : Cx} : CallR X (.builtin "sorted") (fun xs H Q => rSortedI X.K xs H Q ∨ rSortedS X.K xs H Q) := cr_sortedI.or cr_sortedS
end TL
namespace TL
open PySem L2
open PySem.SeqAt
/-! ### comparing clean trees: no truths beside ints -/
def Cl (m : Bool) : Nat → T → Prop
  | _, .non => True
  | _, .bl _ => m = true
  | _, .int _ => m = false
  | _, .str x => PyData.canLay0 (.str x) = true
  | k + 1, .lst xs => ∀ x ∈ xs, Cl m k x
  | k + 1, .tup xs => ∀ x ∈ xs, Cl m k x
  | _, _ => False
def ClP (m : Bool) : PyData → Bool
  | .bool _ => m
  | .int _ => !m
  | _ => true
theorem cl_dats {m : Bool} {k : Nat} (ih : ∀ t, Cl m k t → ∃ d, T.dat t = some d ∧ d.canLay0 = true ∧ d.depth ≤ k) : ∀ xs : List T, (∀ x ∈ xs, Cl m k x) → ∃ ds, T.dats xs = some ds ∧ PyData.canLayAll0 ds = true ∧ PyData.depthAll ds ≤ k
  | [], _ => ⟨[], rfl, rfl, Nat.zero_le _⟩
  | x :: xs, h => by
    obtain ⟨d, e1, e2, e3⟩ := ih x (h x (List.mem_cons_self ..))
    obtain ⟨ds, f1, f2, f3⟩ := cl_dats ih xs fun y hy => h y (List.mem_cons_of_mem _ hy)
    refine ⟨d :: ds, by unfold T.dats; rw [e1, f1], by simp only [PyData.canLayAll0]; rw [e2, f2]; rfl, ?_⟩
    simp only [PyData.depthAll]
    omega
theorem cl_dat {m : Bool} : ∀ (k : Nat) (t : T), Cl m k t → ∃ d, T.dat t = some d ∧ d.canLay0 = true ∧ d.depth ≤ k
  | k, .non, _ => ⟨_, rfl, rfl, Nat.zero_le _⟩
  | k, .bl _, _ => ⟨_, rfl, rfl, Nat.zero_le _⟩
  | k, .int _, _ => ⟨_, rfl, rfl, Nat.zero_le _⟩
  | k, .str x, h => ⟨_, rfl, by cases k <;> exact h, Nat.zero_le _⟩
  | k + 1, .lst xs, h => by
    obtain ⟨ds, f1, f2, f3⟩ := cl_dats (cl_dat k) xs h
    exact ⟨.list ds, by unfold T.dat; rw [f1]; rfl, f2, by simp only [PyData.depth]; omega⟩
  | k + 1, .tup xs, h => by
    obtain ⟨ds, f1, f2, f3⟩ := cl_dats (cl_dat k) xs h
    exact ⟨.tuple ds, by unfold T.dat; rw [f1]; rfl, f2, by simp only [PyData.depth]; omega⟩
  | 0, .lst xs, h => h.elim
  | 0, .tup xs, h => h.elim
  | 0, .ty _, h => h.elim
  | 0, .mach, h => h.elim
  | 0, .scr _, h => h.elim
  | 0, .cst _, h => h.elim
  | 0, .dct _, h => h.elim
  | 0, .obj _ _, h => h.elim
  | 0, .exc _ _, h => h.elim
  | 0, .cls _, h => h.elim
  | _ + 1, .ty _, h => h.elim
  | _ + 1, .mach, h => h.elim
  | _ + 1, .scr _, h => h.elim
  | _ + 1, .cst _, h => h.elim
  | _ + 1, .dct _, h => h.elim
  | _ + 1, .obj _ _, h => h.elim
  | _ + 1, .exc _ _, h => h.elim
  | _ + 1, .cls _, h => h.elim
theorem dats_inj_of {ih : T → Prop} (hi : ∀ x, ih x → ∀ y d e, T.dat x = some d → T.dat y = some e → PyData.eqv d e = true → ih y → x = y) : ∀ (xs ys : List T) (ds es : List PyData), (∀ x ∈ xs, ih x) → (∀ x ∈ ys, ih x) → T.dats xs = some ds → T.dats ys = some es → PyData.eqvAll ds es = true → xs = ys
  | [], [], _, _, _, _, _, _, _ => rfl
  | [], y :: ys, ds, es, _, _, e1, e2, h => by
    unfold T.dats at e1 e2
    cases e1
    split at e2
    · cases e2; simp [PyData.eqvAll] at h
    · cases e2
  | x :: xs, [], ds, es, _, _, e1, e2, h => by
    unfold T.dats at e1 e2
    cases e2
    split at e1
    · cases e1; simp [PyData.eqvAll] at h
    · cases e1
  | x :: xs, y :: ys, ds, es, hx, hy, e1, e2, h => by
    unfold T.dats at e1 e2
    split at e1
    · rename_i d1 ds1 q1 q2
      cases e1
      split at e2
      · rename_i d2 ds2 q3 q4
        cases e2
        simp only [PyData.eqvAll, Bool.and_eq_true] at h
        rw [hi x (hx x (List.mem_cons_self ..)) y _ _ q1 q3 h.1 (hy y (List.mem_cons_self ..)), dats_inj_of hi xs ys _ _ (fun z hz => hx z (List.mem_cons_of_mem _ hz)) (fun z hz => hy z (List.mem_cons_of_mem _ hz)) q2 q4 h.2]
      · cases e2
    · cases e1
theorem dat_inj {m : Bool} : ∀ (k : Nat) (t : T), Cl m k t → ∀ (u : T) (d e : PyData), T.dat t = some d → T.dat u = some e → PyData.eqv d e = true → Cl m k u → t = u := by
  intro k
  induction k with
  | zero =>
    intro t ht u d e h1 h2 h3 hu
    cases t <;> cases u <;> first | exact ht.elim | exact hu.elim | skip
    all_goals (unfold T.dat at h1 h2; cases h1; cases h2; simp only [PyData.eqv, beq_iff_eq] at h3)
    all_goals first | (have a : m = true := ht; have b : m = false := hu; rw [a] at b; cases b) | (have a : m = false := ht; have b : m = true := hu; rw [a] at b; cases b) | rfl | (subst h3; rfl) | (cases h3)
  | succ k ih =>
    intro t ht u d e h1 h2 h3 hu
    cases t <;> cases u <;> first | exact ht.elim | exact hu.elim | skip
    all_goals (unfold T.dat at h1 h2)
    all_goals first
      | (cases h1; cases h2; simp only [PyData.eqv, beq_iff_eq] at h3; done)
      | (cases h1; cases h2; simp only [PyData.eqv, beq_iff_eq] at h3; first | (have a : m = true := ht; have b : m = false := hu; rw [a] at b; cases b) | (have a : m = false := ht; have b : m = true := hu; rw [a] at b; cases b) | rfl | (subst h3; rfl) | (cases h3))
      | (cases h1; cases h2; rfl)
      | (obtain ⟨ds, q1, rfl⟩ := Option.map_eq_some_iff.mp h1; obtain ⟨es, q2, rfl⟩ := Option.map_eq_some_iff.mp h2; simp only [PyData.eqv] at h3; rw [dats_inj_of (ih := Cl m k) (fun x hx y d e a b c hy => ih x hx y d e a b c hy) _ _ ds es ht hu q1 q2 h3])
      | (obtain ⟨ds, q1, rfl⟩ := Option.map_eq_some_iff.mp h1; obtain ⟨es, q2, rfl⟩ := Option.map_eq_some_iff.mp h2; simp [PyData.eqv] at h3)
      | (obtain ⟨ds, q1, rfl⟩ := Option.map_eq_some_iff.mp h1; cases h2; simp [PyData.eqv] at h3)
      | (obtain ⟨ds, q1, rfl⟩ := Option.map_eq_some_iff.mp h2; cases h1; simp [PyData.eqv] at h3)
variable [Mach] [CN] [Xw]
theorem pEqB_dat {f : Bool → Bool} {R : T → Prop} {x y : T} {d e : PyData} (hx : T.dat x = some d) (hy : T.dat y = some e) (sx : SeqAt.shaped d = true) (sy : SeqAt.shaped e = true) (h : R (.bl (f (PyData.eqv d e)))) : pEqB f x y R := by
  unfold pEqB
  split
  · unfold T.dat at hx hy; cases hx; cases hy
    rename_i a b
    have : PyData.eqv (.str a) (.str b) = decide (a = b) := by simp only [PyData.eqv]; rfl
    rw [this] at h; exact h
  · unfold T.dat at hx hy; cases hx; cases hy
    rename_i a b
    have : PyData.eqv (.int a) (.int b) = decide (a = b) := by simp only [PyData.eqv]; rfl
    rw [this] at h; exact h
  · unfold T.dat at hx hy; cases hx; cases hy
    rename_i a b
    have : PyData.eqv (.bool a) (.bool b) = decide (a = b) := by simp only [PyData.eqv]; cases a <;> cases b <;> rfl
    rw [this] at h; exact h
  · rw [hx, hy]
    exact ⟨sx, sy, h⟩
theorem eq_cl {m : Bool} {k : Nat} {f : Bool → Bool} {R : T → Prop} {x y : T} (hk : k ≤ 64) (hx : Cl m k x) (hy : Cl m k y) {b : Bool} (hb : b = true ↔ x = y) (h : R (.bl (f b))) : pEqB f x y R := by
  obtain ⟨d, d1, d2, d3⟩ := cl_dat k x hx
  obtain ⟨e, e1, e2, e3⟩ := cl_dat k y hy
  refine pEqB_dat d1 e1 (by unfold SeqAt.shaped; rw [d2, decide_eq_true (by omega)]; rfl) (by unfold SeqAt.shaped; rw [e2, decide_eq_true (by omega)]; rfl) ?_
  have : PyData.eqv d e = b := by
    cases q : PyData.eqv d e with
    | true => exact (hb.mpr (dat_inj k x hx y d e d1 e1 q hy)).symm
    | false =>
      cases b with
      | false => rfl
      | true =>
        have := hb.mp rfl
        subst this
        rw [d1] at e1
        cases e1
        rw [eqv_refl d d2] at q
        cases q
  rw [this]; exact h
theorem eq_same {m : Bool} {k : Nat} {f : Bool → Bool} {R : T → Prop} {x y : T} (hk : k ≤ 64) (hx : Cl m k x) (e : x = y) (h : R (.bl (f true))) : pEqB f x y R := by
  subst e
  exact eq_cl hk hx hx ⟨fun _ => rfl, fun _ => rfl⟩ h
theorem eq_diff {m : Bool} {k : Nat} {f : Bool → Bool} {R : T → Prop} {x y : T} (hk : k ≤ 64) (hx : Cl m k x) (hy : Cl m k y) (e : x ≠ y) (h : R (.bl (f false))) : pEqB f x y R :=
  eq_cl hk hx hy ⟨fun z => (by cases z), fun z => absurd z e⟩ h
theorem cl_int {k : Nat} {i : Int} : Cl false k (.int i) := by cases k <;> rfl
theorem cl_lst {m : Bool} {k : Nat} {xs : List T} (h : ∀ x ∈ xs, Cl m k x) : Cl m (k + 1) (.lst xs) := h
theorem cl_tup {m : Bool} {k : Nat} {xs : List T} (h : ∀ x ∈ xs, Cl m k x) : Cl m (k + 1) (.tup xs) := h
end TL
namespace TL
open PySem L2
variable [Mach] [CN] [Xw]
theorem Reps.reverse {K : PySem.W.Frag} {am : Option Addr} {H : Hp} : ∀ {ts : List T} {vs : List V}, Reps K am H ts vs → Reps K am H ts.reverse vs.reverse
  | [], vs, h => by rw [Reps.nil_iff.mp h]; exact Reps.nil_iff.mpr rfl
  | t :: ts, vs, h => by
    obtain ⟨v, r, rfl, h1, h2⟩ := Reps.cons_iff.mp h
    rw [List.reverse_cons, List.reverse_cons]
    exact h2.reverse.append (Reps.mk_cons h1 (Reps.nil_iff.mpr rfl))
def pRev : G1 := fun x R => match x with
  | .lst xs => R (.lst xs.reverse)
  | _ => False
section
variable {X : Cx} {e f o : Expr} {fe fo ff : WE} {k : Nat} {p1 p2 p3 pos apos cpos : Pos}
theorem q_rev (he : QE X e fe) : QE X (.Subscript e (.Slice none none (some (.UnaryOp .USub (.Constant (.int 1) k p1) p2)) p3) pos) (w1 pRev fe) := PE.imp (pe_revL he) fun σ H Q ⟨am, Hs, ts, n, R, sp, re, h, k⟩ => by
  refine ⟨am, Hs, ts, n, _, sp, re, h, fun x n1 hx vx Hs1 H1 e1 rx => ?_⟩
  have k1 : Done X.K am Hs1 H1 n1 (fun z => R z n1) Q := fun z hz v Hs' H' e2 r => k z n1 hz v Hs' H' (e1.trans e2) r
  cases x with
  | lst xs =>
    simp only [Rep] at rx
    obtain ⟨a, vs, rfl, h1, h2⟩ := rx
    exact ⟨a, vs, rfl, SqL.of (e1.spl.sub _ _ h1), fun p hp => k1.lay e1.spl hx hp _ (rep_lst_new e1.spl hp h2.reverse)⟩
  | _ => exact hx.elim
/-- d.get(k), d.get(k, x) -/
def wGet1 (fo fe : WE) : WE := fun ts n R => fo ts n fun x n1 => match x with
  | .dct kvs => fe ts n1 fun y n2 => match keyT y with
    | some k => R ((valT kvs k).getD .non) n2
    | none => False
  | _ => False
def wGet2 (fo fe ff : WE) : WE := fun ts n R => fo ts n fun x n1 => match x with
  | .dct kvs => fe ts n1 fun y n2 => match keyT y with
    | some k => ff ts n2 fun z n3 => R ((valT kvs k).getD z) n3
    | none => False
  | _ => False
theorem q_get1 (hu : X.A.units + 1 < cLine) (m : M1 X o "get" apos e cpos) (ho : QE X o fo) (he : QE X e fe) : QE X (.Call (.Attribute o "get" apos) [e] [] cpos) (wGet1 fo fe) := PE.imp (pe_dget1 hu ho he m) fun σ H Q ⟨am, Hs, ts, n, R, sp, re, h, k⟩ => by
  refine ⟨am, Hs, ts, n, _, sp, re, h, fun x n1 hx vx Hs1 H1 e1 rx => ?_⟩
  cases x with
  | dct kvs =>
    have rx0 := rx
    simp only [Rep] at rx
    obtain ⟨a, vs, rfl, h1, h2⟩ := rx
    refine ⟨a, rfl, .inl ⟨vs, same_rd e1.spl.sub h1⟩, am, Hs1, ts, n1, _, e1.spl, re.ext e1, hx, fun y n2 hy vy Hs2 H2 e2 ry => ?_⟩
    cases ek : keyT y with
    | none => rw [ek] at hy; exact hy.elim
    | some key =>
      rw [ek] at hy
      have rk := RepK.mono e2.same _ _ h2
      refine ⟨valV vs key, .inl ⟨vs, key, same_rd (e2.same.trans e2.spl.sub) h1, keyT_V ek ry, rfl⟩, ?_⟩
      cases ev : valT kvs key with
      | none =>
        rw [(rk.val key).2 ev]
        have hy' : R ((valT kvs key).getD .non) n2 := hy
        rw [ev] at hy'
        exact k _ n2 hy' _ Hs2 H2 (e1.trans e2) (by simp only [Rep, Option.getD])
      | some t =>
        obtain ⟨v, hv, rv⟩ := (rk.val key).1 t ev
        rw [hv]
        have hy' : R ((valT kvs key).getD .non) n2 := hy
        rw [ev] at hy'
        exact k _ n2 hy' _ Hs2 H2 (e1.trans e2) rv
  | _ => exact hx.elim
theorem q_get2 (hu : X.A.units + 1 < cLine) (m : M2 X o "get" apos e f cpos) (ho : QE X o fo) (he : QE X e fe) (hf : QE X f ff) : QE X (.Call (.Attribute o "get" apos) [e, f] [] cpos) (wGet2 fo fe ff) := PE.imp (pe_dget2 hu ho he hf m) fun σ H Q ⟨am, Hs, ts, n, R, sp, re, h, k⟩ => by
  refine ⟨am, Hs, ts, n, _, sp, re, h, fun x n1 hx vx Hs1 H1 e1 rx => ?_⟩
  cases x with
  | dct kvs =>
    simp only [Rep] at rx
    obtain ⟨a, vs, rfl, h1, h2⟩ := rx
    refine ⟨a, rfl, .inl ⟨vs, same_rd e1.spl.sub h1⟩, am, Hs1, ts, n1, _, e1.spl, re.ext e1, hx, fun y n2 hy vy Hs2 H2 e2 ry => ?_⟩
    cases ek : keyT y with
    | none => rw [ek] at hy; exact hy.elim
    | some key =>
      rw [ek] at hy
      refine ⟨am, Hs2, ts, n2, _, e2.spl, re.ext (e1.trans e2), hy, fun z n3 hz vz Hs3 H3 e3 rz => ?_⟩
      have e23 := e2.trans e3
      have rk := RepK.mono e23.same _ _ h2
      refine ⟨valV vs key, .inl ⟨vs, key, same_rd (e23.same.trans e23.spl.sub) h1, keyT_V ek ry, rfl⟩, ?_⟩
      cases ev : valT kvs key with
      | none =>
        rw [(rk.val key).2 ev]
        have hz' : R ((valT kvs key).getD z) n3 := hz
        rw [ev] at hz'
        exact k _ n3 hz' _ Hs3 H3 ((e1.trans e2).trans e3) rz
      | some t =>
        obtain ⟨v, hv, rv⟩ := (rk.val key).1 t ev
        rw [hv]
        have hz' : R ((valT kvs key).getD z) n3 := hz
        rw [ev] at hz'
        exact k _ n3 hz' _ Hs3 H3 ((e1.trans e2).trans e3) rv
  | _ => exact hx.elim
end
end TL
namespace TL
open PySem PySem.Spec PyProof.Rows L2
/-! a promise of any form -/
section
variable {P : Program} {w : World} {K : PySem.W.Frag} {mg : Str → Option Value} {base : Heap}
theorem fnT_of {x qual : Str} {st : Stmt} {f : Addr} {fd : FuncData} {N ps : List Str} {k : Nat} {sp : Sp} (G : Fun K x qual st f fd) (S : FnScope N ps (defScope st)) (len : ∀ vs H Q E, sp vs H Q E → vs.length = ps.length)
    (hbody : ∀ (cdv : Value) (A : Around) (outer : List PySem.Env) (s : Shared) (H : Hp) (vs : List V) (Q : VK) (E : XK), A.guards = some [] → Room k (A.deeper (PyProof.Rows.envOfC qual (defScope st) s.heap.objs.size f cdv)) → sp vs H Q E →
      ∃ t, PSs (cxT P w K mg base N qual st f cdv A outer s H E) (defBody st) t ∧ t { nx := fun _ H' => Q .non H', rt := Q } (L2.start N vs) H) : FnT P w K mg base (k + 1) f fd ps sp := by
  obtain ⟨oc, od, kV, doc, pm, an, cdv, ct, osl, rfl, lk, hcd⟩ := G.ex
  refine ⟨len, fun A outer s H args us vs Q E hgd hr e0 hb r hsp => ?_⟩
  have KX : K.In s.heap := e0.mod.kin.keeps fun b o e => (e0.bs b o e).1
  have hk : ∀ y ∈ ps.zip us, (defScope st).names.lookup y.1 = some .local ∨ ((defScope st).names.lookup y.1 = some .cell ∧ ((cellsFrom (s.heap.objs.size + 1) (defScope st).names []).lookup y.1).isSome = true) := fun y hy =>
    (S.par y.1 (List.of_mem_zip (show (y.1, y.2) ∈ ps.zip us from hy)).1).elim .inl fun q => .inr ⟨q, PySem.W.cellsFrom_some _ _ _ (.inl q)⟩
  refine codeAny_call_function hr.depth (KX _ _ lk) rfl S.co S.gen rfl (PySem.W.codeRec_of KX hcd) (hb _ _ _ _ (wpAny_newFunctionEnv_cells S.kind hk fun env he s1 x => ?_))
  subst he
  refine ⟨(e0.mod.nolimit.keeps fun b o e => (e0.bs b o e).1).keeps x.toInCall.keep, codeAny_func ?_⟩
  have I : Inv (cxT P w K mg base N qual st f cdv A outer s H E) [] (L2.start N vs) H s1 := inv_start S hr.hd e0 (len _ _ _ _ hsp) r x
  obtain ⟨t, ht, hq⟩ := hbody cdv A outer s H vs Q E hgd (hr.deeper _) hsp
  refine wpAny_mono (ht.run [] s1 (L2.start N vs) H _ I hq) (fun fl s' hs => ?_) fun e s' hs => hs
  match fl, hs with
  | .ret u, ⟨v, σ', H', J, rv, q⟩ => exact ⟨v, H', J.os, J.bare, J.base, J.hok, rv, q⟩
  | .next, ⟨σ', H', J, q⟩ => exact ⟨.non, H', J.os, J.bare, J.base, J.hok, rfl, q⟩
  | .brk, ⟨_, _, _, q⟩ => exact q.elim
  | .cont, ⟨_, _, _, q⟩ => exact q.elim
end
section
variable [Mach] [CN] [Xw] {X : Cx} {k : Nat} {f : Addr} {fd : FuncData} {ps : List Str} {sp : Sp} {x : Str} {p pos : Pos} {e : Expr} {es : List Expr} {t : TA}
/-- a call that lets no exception out -/
theorem pe_callT (G : FnT X.prog X.w X.K X.mg X.base k f fd ps sp) (hgd : X.A.guards = some []) (hr : Room k X.A) (hg : Gl X x) (hm : X.mg x = some (.ref f)) (hk : PySem.W.keepIn X.K (.ref f) = true) (hb : Binds X.K fd ps [])
    (ha : PA X (e :: es) t) (hdb : (x == ("__debug__" : Str)) = false := by decide) (he : starEach (e :: es) X.env = (false, eval e X.env) :: starEach es X.env := by rfl) (hpl : (backTo pos (starEach es X.env)).any (·.1) = false := by rfl) :
    PE X (.Call (.Name x p) (e :: es) [] pos) (tCall sp [] E0 t) := by
  refine ⟨fun pins s σ H Q I h => wpAny_Call_Name_kw (ld_glob I hg hm ?_ hdb)⟩
  exact PySem.W.callWith_K (h₀ := X.base) I.ok.mod.kin hk (thn (ha.run pos pins s σ H _ I h) fun us s1 ⟨vs, H1, I1, r, q⟩ => ⟨I1.kIn, run_fnT (dvs := []) (ds := []) G hgd hr hb .nil (TL.takes0 (X := X)) I1 r q⟩) he hpl
end
/-- classes by the module's own names -/
@[reducible] def cnOf (mg : Str → Option Value) : CN := ⟨fun x => match mg x with | some (.ref a) => some a | _ => none⟩
instance xwNo_ind : @XwI Xw.no := @XwI.mk Xw.no fun h => h
/-! the law's call at the heap behind the top, by a promise that holds where no repr is under way -/
section
variable {P : Program} {w : World} {K : PySem.W.Frag} {mg mb : Str → Option Value} {k : Nat} {fa a : Addr} {fd : FuncData} {x : Str} {sp : Sp} {s1 : Shared} {vs : List Value} {ns : List Int}
abbrev LawEnd (s1 : Shared) (r : Result) (s' : Shared) : Prop := r = .ok (.ret (.bool true)) ∧ OldK s1.heap s'.heap ∧ s'.os = s1.os ∧ AllBare s'.gens
theorem lawT_core (KX : K.In s1.heap) (hns : s1.heap.Ns mainGlobals mg) (hb : s1.heap.Ns builtinsNs mb) (hbb : ∀ x : Str, x ≠ "__name__" → mb x = bootBuiltins x) (hlim : s1.heap.NoLimit) (hg : s1.gens = #[])
    (ha : s1.heap.get? a = some { cls := .type "list", data := .seq vs.toArray }) (hr : Room k callerA) (F : ∀ base : Heap, K.In base → base.Ns mainGlobals mg → FnT P w K mg base k fa fd [x] sp) (hbind : ∀ (s : Shared) (u : Value), BindsTo s fd ⟨[u], []⟩ [(x, u)])
    (H : Hp) (hO : Only H) (hsp : sp [.ref a] H (fun v _ => v = .bl true) fun _ _ _ => False) (hok : HOk P w H s1.heap) (hA : ∀ b, H b ≠ none → b = a) (hK : H a ≠ none → K.lookup a = none) :
    codeAny (model P w) callerA (.call (.ref fa) ⟨[.ref a], []⟩) (LawEnd s1) s1 := by
  have un_of : ∀ b, (b = a → H a ≠ none → False) → H b = none := fun b h => Classical.byContradiction fun q => h (hA b q) (hA b q ▸ q)
  have nsK : ∀ {b : Addr} {m : Str → Option Value}, s1.heap.Ns b m → (hidT s1.heap H).Ns b m := fun {b m} ⟨o, es, ep, e, d, r⟩ => ⟨o, es, ep, hidT_get e (un_of b fun z _ => by
    rw [z, ha] at e; cases e
    cases (show Data.seq vs.toArray _ = Data.dict es ep from d)), d, r⟩
  have kb : K.In (hidT s1.heap H) := fun b o e => hidT_get (KX b o e) (un_of b fun z q => by rw [z, hK q] at e; cases e)
  have e0 : Env0 P w K mg (hidT s1.heap H) callerA [] s1 H := { frames := rfl, mod := ⟨kb, nsK hns, ⟨mb, nsK hb, hbb⟩, let ⟨mc, h1, h2⟩ := hlim; ⟨mc, nsK h1, h2⟩⟩, bs := fun b o e => of_hidT e, bsz := Nat.le_of_eq (hidT_size _ _), funs := trivial, frf := fun b hb => (nomatch (show b ∈ ([] : List Addr) from hb)), hok := hok, bare := .of_eq hg }
  refine codeAny_mono ((F _ kb (nsK hns)).run callerA [] s1 H ⟨[.ref a], []⟩ [.ref a] [.ref a] _ _ rfl hr e0 (hbind s1 (.ref a)) (.cons rfl .nil) hsp) fun r s' h => ?_
  cases r with
  | error e =>
    obtain ⟨_, _, _, _, _, _, _, _, _, _, _, _, z⟩ := h
    exact z.elim
  | ok fl =>
    cases fl with
    | ret u =>
      obtain ⟨v, H', os, bare, un, hok', r', q⟩ := h
      subst q
      obtain rfl : u = Value.bool true := r'
      refine ⟨rfl, OldK.of_keep fun b o e => ?_, os, bare⟩
      rcases hO b with z | ⟨ob, xs, z⟩
      · exact un.keep b o e z (fun z => nomatch (show b ∈ ([] : List Addr) from z)) (by simp)
      · have e1 := (hok b _ z).1
        rw [e] at e1; cases e1
        exact (hok' b _ (un.frzs b _ _ z)).1
    | _ => exact False.elim h
theorem lawT_call (KX : K.In s1.heap) (hns : s1.heap.Ns mainGlobals mg) (hb : s1.heap.Ns builtinsNs mb) (hbb : ∀ x : Str, x ≠ "__name__" → mb x = bootBuiltins x) (hlim : s1.heap.NoLimit) (hg : s1.gens = #[])
    (ha : s1.heap.get? a = some { cls := .type "list", data := .seq vs.toArray }) (hi : IntsAre vs ns) (hl : ns.length ≤ sizeLine) (hr : Room k callerA) (F : ∀ base : Heap, K.In base → base.Ns mainGlobals mg → FnT P w K mg base k fa fd [x] sp)
    (hbind : ∀ (s : Shared) (u : Value), BindsTo s fd ⟨[u], []⟩ [(x, u)]) (hsp : ∀ H : Hp, Only H → SqL K H a (ns.map V.int) → sp [.ref a] H (fun v _ => v = .bl true) fun _ _ _ => False) :
    codeAny (model P w) callerA (.call (.ref fa) ⟨[.ref a], []⟩) (LawEnd s1) s1 := by
  have rv := vals_ints hi
  have lenV := hi.length
  have core := fun H hO hS => lawT_core (k := k) KX hns hb hbb hlim hg ha hr F hbind H hO (hsp H hO hS)
  cases hk : K.lookup a with
  | some o =>
    have e := KX a o hk
    rw [ha] at e; cases e
    exact core (fun _ => none) (fun _ => .inl rfl) (.inr ⟨_, vs.toArray, _, hk, rfl, rfl, rfl, by rw [List.size_toArray, lenV]; exact hl, by simpa using rv⟩) (fun b u z => nomatch z) (fun b z => absurd rfl z) fun z => absurd rfl z
  | none =>
    have at_ : ∀ b u, (if b = a then some (HO.frz { cls := .type "list", data := .seq vs.toArray } (.lst (ns.map V.int))) else none) = some u → b = a ∧ u = .frz { cls := .type "list", data := .seq vs.toArray } (.lst (ns.map V.int)) := fun b u z => by
      split at z
      · rename_i e; cases z; exact ⟨e, rfl⟩
      · cases z
    refine core (fun b => if b = a then some (.frz { cls := .type "list", data := .seq vs.toArray } (.lst (ns.map V.int))) else none) (fun b => ?_) (.inl (.inr ⟨_, if_pos rfl⟩)) (fun b u z => ?_) (fun b z => ?_) fun _ => hk
    · by_cases e : b = a
      · exact .inr ⟨_, _, if_pos e⟩
      · exact .inl (if_neg e)
    · obtain ⟨rfl, rfl⟩ := at_ b u z
      exact ⟨ha, by rw [List.length_map]; exact hl, vs, _, rv, ha⟩
    · exact Classical.byContradiction fun e => z (if_neg e)
end
/-- the goal that the head leaves, from the law's promise -/
theorem walkT_of {l : PySem.W.OpenLaw} {n k : Nat} {q : Program} {loose : List Str} {XP : (Str → Option Value) → Heap → Prop} {YP : World → Heap → Prop} {d : DefRec} {K : Params → PySem.W.Frag} {sp : World → Sp} {x : Str} (hn : l.most = some n) (hn2 : n ≤ sizeLine) (hdf : d.params.defaults = []) (hr : Room k callerA)
    (hY : ∀ (w : World) (h : Heap), YP w h → (K w.params).In h) (F : ∀ (w : World) (mg : Str → Option Value) (fa : Addr) (h : Heap), (K w.params).In h → h.Ns mainGlobals mg → mg d.name = some (.ref fa) → ∃ fd : FuncData, (∀ (s : Shared) (u : Value), BindsTo s fd ⟨[u], []⟩ [(x, u)]) ∧
      ∀ base : Heap, (K w.params).In base → base.Ns mainGlobals mg → FnT l.prog w (K w.params) mg base k fa fd [x] (sp w))
    (hsp : ∀ (w : World) (H : Hp) (a : Addr) (ns : List Int), ns.length ≤ n → Only H → SqL (K w.params) H a (ns.map V.int) → sp w [.ref a] H (fun v _ => v = .bl true) fun _ _ _ => False) : PySem.W.WalkO q loose XP YP l.row.toRowW d [] (fun f vs => PySem.call f vs) := by
  refine Att.attach_call hn hdf fun w s0 s1 mg mb fa o pm cd doc a vs ns G Y ho hd hcd hmg hobj hints hlen hg => ?_
  obtain ⟨fd, hb, hF⟩ := F w mg fa _ (hY w _ Y) G.T.g hmg
  exact lawT_call (hY w _ Y) G.T.g G.T.b G.T.builtins G.T.nolimit hg hobj hints (Nat.le_trans hlen hn2) hr hF hb fun H hO hS => hsp w H a ns hlen hO hS
end TL
/-! The functional layer: what the bodies compute, as plain Lean functions over trees. -/
namespace TL
open PySem L2
inductive D (α : Type) where
  | ok (a : α) | bad | ex (x : Exn) | draw (m : Nat) (k : Nat → D α)
namespace D
variable {α β γ : Type}
def bind : D α → (α → D β) → D β
  | .ok a, f => f a
  | .bad, _ => .bad
  | .ex x, _ => .ex x
  | .draw m k, f => .draw m fun r => (k r).bind f
theorem ok_bind (a : α) (f : α → D β) : (D.ok a).bind f = f a := rfl
theorem bad_bind (f : α → D β) : (D.bad : D α).bind f = .bad := rfl
theorem ex_bind (x : Exn) (f : α → D β) : (D.ex x : D α).bind f = .ex x := rfl
theorem draw_bind (m : Nat) (k : Nat → D α) (f : α → D β) : (D.draw m k).bind f = .draw m fun r => (k r).bind f := rfl
theorem bind_ok (d : D α) : d.bind .ok = d := by
  induction d with
  | draw m k ih => rw [draw_bind]; congr 1; funext r; exact ih r
  | _ => rfl
theorem bind_assoc (d : D α) (f : α → D β) (g : β → D γ) : (d.bind f).bind g = d.bind fun a => (f a).bind g := by
  induction d with
  | draw m k ih => rw [draw_bind, draw_bind, draw_bind]; congr 1; funext r; exact ih r
  | _ => rfl
/-- exceptions are not wanted here -/
def nox : D α → D α
  | .ok a => .ok a
  | .bad => .bad
  | .ex _ => .bad
  | .draw m k => .draw m fun r => (k r).nox
theorem ok_nox (a : α) : (D.ok a).nox = .ok a := rfl
theorem bad_nox : (D.bad : D α).nox = .bad := rfl
theorem ex_nox (x : Exn) : (D.ex x : D α).nox = .bad := rfl
theorem draw_nox (m : Nat) (k : Nat → D α) : (D.draw m k).nox = .draw m fun r => (k r).nox := rfl
theorem bind_nox (d : D α) (f : α → D β) : (d.bind f).nox = d.nox.bind fun a => (f a).nox := by
  induction d with
  | draw m k ih => rw [draw_bind, draw_nox, draw_nox, draw_bind]; congr 1; funext r; exact ih r
  | _ => rfl
theorem nox_nox (d : D α) : d.nox.nox = d.nox := by
  induction d with
  | draw m k ih => rw [draw_nox, draw_nox]; congr 1; funext r; exact ih r
  | _ => rfl
end D
def wp {α : Type} (E : XE) : D α → Nat → (α → Nat → Prop) → Prop
  | .ok a, n, R => R a n
  | .bad, _, _ => False
  | .ex x, n, _ => E x n
  | .draw m k, n, R => (0 < m ∧ m < 1073741824 ∧ 1 ≤ n) ∧ ∀ r, r < m → wp E (k r) (n - 1) R
section
variable {α β : Type} {E : XE}
theorem wp_mono {d : D α} : ∀ {n : Nat} {R R' : α → Nat → Prop}, wp E d n R → (∀ a n', R a n' → R' a n') → wp E d n R' := by
  induction d with
  | ok a => exact fun h k => k _ _ h
  | bad => exact fun h _ => h
  | ex x => exact fun h _ => h
  | draw m k ih => exact fun h k => ⟨h.1, fun r hr => ih r (h.2 r hr) k⟩
theorem wp_bind {d : D α} {f : α → D β} : ∀ {n : Nat} {R : β → Nat → Prop}, wp E (d.bind f) n R ↔ wp E d n fun a n' => wp E (f a) n' R := by
  induction d with
  | ok a => exact fun {n R} => Iff.rfl
  | bad => exact fun {n R} => Iff.rfl
  | ex x => exact fun {n R} => Iff.rfl
  | draw m k ih =>
    intro n R
    exact ⟨fun h => ⟨h.1, fun r hr => (ih r).mp (h.2 r hr)⟩, fun h => ⟨h.1, fun r hr => (ih r).mpr (h.2 r hr)⟩⟩
def chk (p : Prop) [Decidable p] (d : D α) : D α := if p then d else .bad
theorem chk_pos {p : Prop} [Decidable p] {d : D α} (h : p) : chk p d = d := if_pos h
theorem wp_chk {p : Prop} [Decidable p] {d : D α} {n : Nat} {R : α → Nat → Prop} : wp E (chk p d) n R ↔ p ∧ wp E d n R := by
  unfold chk
  by_cases h : p
  · rw [if_pos h]; exact ⟨fun q => ⟨h, q⟩, fun q => q.2⟩
  · rw [if_neg h]; exact ⟨fun q => q.elim, fun q => h q.1⟩
end
theorem wp_nox {α : Type} {E E' : XE} {d : D α} : ∀ {n : Nat} {R : α → Nat → Prop}, wp E d.nox n R → wp E' d n R := by
  induction d with
  | ok a => exact fun h => h
  | bad => exact fun h => h
  | ex x => exact fun h => h.elim
  | draw m k ih => exact fun h => ⟨h.1, fun r hr => ih r (h.2 r hr)⟩
theorem chk_nox {α : Type} {p : Prop} [Decidable p] {d : D α} : (chk p d).nox = chk p d.nox := by
  unfold chk; split <;> rfl
/-! ### refinement -/
def RE_ (E : XE) (f : WE) (ts : Env) (d : D T) : Prop := ∀ n R, wp E d n R → f ts n R
def RA_ (E : XE) (f : WA) (ts : Env) (d : D (List T)) : Prop := ∀ n R, wp E d n R → f ts n R
def RT_ (E : XE) (f : WT) (ts : Env) (d : D Bool) : Prop := ∀ n R, wp E d n R → f ts n R
def RI_ (E : XE) (f : WI) (ts : Env) (d : D (List T)) : Prop := ∀ n R, wp E d n R → f ts n R
def RO_ (E : XE) (f : WO) (ts : Env) (d : D (Option Int)) : Prop := ∀ n R, wp E d n R → f ts n R
def P1 (g : G1) (p : T → D T) : Prop := ∀ (E : XE) x n (R : T → Nat → Prop), wp E (p x) n R → g x fun z => R z n
def P2 (g : G2) (p : T → T → D T) : Prop := ∀ (E : XE) x y n (R : T → Nat → Prop), wp E (p x y) n R → g x y fun z => R z n
def PN (g : GN) (p : List T → D T) : Prop := ∀ (E : XE) xs n (R : T → Nat → Prop), wp E (p xs) n R → g xs fun z => R z n
def PM (g : T → GN) (p : T → List T → D T) : Prop := ∀ (E : XE) x xs n (R : T → Nat → Prop), wp E (p x xs) n R → g x xs fun z => R z n
abbrev d1 (p : T → D T) (a : D T) : D T := a.bind p
abbrev d2 (p : T → T → D T) (a b : D T) : D T := a.bind fun x => b.bind fun y => p x y
abbrev d3 (p : T → T → T → D T) (a b c : D T) : D T := a.bind fun x => b.bind fun y => c.bind fun z => p x y z
abbrev d4 (p : T → T → T → T → D T) (a b c e : D T) : D T := a.bind fun x => b.bind fun y => c.bind fun z => e.bind fun u => p x y z u
abbrev d5 (p : T → T → T → T → T → D T) (a b c e f : D T) : D T := a.bind fun x => b.bind fun y => c.bind fun z => e.bind fun u => f.bind fun v => p x y z u v
abbrev dNil : D (List T) := .ok []
abbrev dCons (a : D T) (b : D (List T)) : D (List T) := a.bind fun x => b.bind fun y => .ok (x :: y)
abbrev dN (p : List T → D T) (a : D (List T)) : D T := a.bind p
abbrev dM (p : T → List T → D T) (o : D T) (a : D (List T)) : D T := o.bind fun x => a.bind fun y => p x y
abbrev dM0 (p : T → List T → D T) (o : D T) : D T := o.bind fun x => p x []
section
variable {E : XE} {ts : Env} {fa fb fc fe f : WE} {fs fk : WA} {da db dc : D T} {ds dk : D (List T)}
theorem u_var {i : Nat} {x : T} (h : ts[i]? = some (.tr x)) : RE_ E (wVar i) ts (.ok x) := fun n R q => by
  unfold wVar; rw [h]; exact q
theorem u_c {t : T} : RE_ E (wC t) ts (.ok t) := fun n R q => q
theorem u_1 {g : G1} {p : T → D T} (h : P1 g p) (ha : RE_ E fa ts da) : RE_ E (w1 g fa) ts (d1 p da) := fun n R q =>
  ha n _ (wp_mono (wp_bind.mp q) fun x n1 q1 => h E x n1 R q1)
theorem u_2 {g : G2} {p : T → T → D T} (h : P2 g p) (ha : RE_ E fa ts da) (hb : RE_ E fb ts db) : RE_ E (w2 g fa fb) ts (d2 p da db) := fun n R q =>
  ha n _ (wp_mono (wp_bind.mp q) fun x n1 q1 => hb n1 _ (wp_mono (wp_bind.mp q1) fun y n2 q2 => h E x y n2 R q2))
theorem ua_nil : RA_ E wNil ts dNil := fun n R q => q
theorem ua_cons (ha : RE_ E fa ts da) (hb : RA_ E fs ts ds) : RA_ E (wCons fa fs) ts (dCons da ds) := fun n R q =>
  ha n _ (wp_mono (wp_bind.mp q) fun x n1 q1 => hb n1 _ (wp_mono (wp_bind.mp q1) fun y n2 q2 => q2))
theorem u_n {g : GN} {p : List T → D T} (h : PN g p) (ha : RA_ E fs ts ds) : RE_ E (wN g fs) ts (dN p ds) := fun n R q =>
  ha n _ (wp_mono (wp_bind.mp q) fun x n1 q1 => h E x n1 R q1)
end
end TL
namespace TL
open PySem L2
/-! ### primitives -/
instance (i j : Int) : Decidable (CMul i j) := by unfold CMul; infer_instance
instance (i j : Int) : Decidable (CDiv i j) := by unfold CDiv; infer_instance
instance (i j : Int) : Decidable (CPow i j) := by unfold CPow; infer_instance
def dInt (g : Int → Int → T) : T → T → D T
  | .int i, .int j => .ok (g i j)
  | _, _ => .bad
def dIntC (C : Int → Int → Prop) [∀ i j, Decidable (C i j)] (g : Int → Int → T) : T → T → D T
  | .int i, .int j => chk (C i j) (.ok (g i j))
  | _, _ => .bad
theorem p_int {g : Int → Int → T} : P2 (pInt g) (dInt g) := fun E x y n R h => by
  unfold dInt at h
  split at h
  · exact h
  · exact h.elim
theorem p_intC {C : Int → Int → Prop} [∀ i j, Decidable (C i j)] {g : Int → Int → T} : P2 (pIntC C g) (dIntC C g) := fun E x y n R h => by
  unfold dIntC at h
  split at h
  · exact wp_chk.mp h
  · exact h.elim
abbrev dSub := dInt fun i j => .int (i - j)
abbrev dDiv := dIntC CDiv fun i j => .int (i / j)
abbrev dMod := dIntC (fun _ j => 0 < j) fun i j => .int (i % j)
abbrev dPow := dIntC CPow fun i j => .int (i ^ j.toNat)
abbrev dShl := dIntC CPow fun i j => .int (i * 2 ^ j.toNat)
abbrev dShr := dIntC (fun _ j => 0 ≤ j) fun i j => .int (i / 2 ^ j.toNat)
abbrev dAnd := dInt fun i j => .int (Builtin.bitAnd i j)
abbrev dOr := dInt fun i j => .int (Builtin.bitOr i j)
abbrev dXor := dInt fun i j => .int (Builtin.bitXor i j)
def dAdd : T → T → D T
  | .int i, .int j => .ok (.int (i + j))
  | .str a, .str b => chk (a.length + b.length ≤ sizeLine) (.ok (.str (a ++ b)))
  | .lst a, .lst b => chk (a.length + b.length ≤ sizeLine) (.ok (.lst (a ++ b)))
  | .tup a, .tup b => chk (a.length + b.length ≤ sizeLine) (.ok (.tup (a ++ b)))
  | _, _ => .bad
theorem p_add : P2 pAdd dAdd := fun E x y n R h => by
  unfold dAdd at h
  split at h
  · exact h
  · exact wp_chk.mp h
  · exact wp_chk.mp h
  · exact wp_chk.mp h
  · exact h.elim
def dIAdd : T → T → D T
  | .int i, .int j => .ok (.int (i + j))
  | .str a, .str b => chk (a.length + b.length ≤ sizeLine) (.ok (.str (a ++ b)))
  | _, _ => .bad
theorem p_iadd : P2 pIAdd dIAdd := fun E x y n R h => by
  unfold dIAdd at h
  split at h
  · exact h
  · exact wp_chk.mp h
  · exact h.elim
def dCat : T → T → D T
  | .lst a, .lst b => chk (a.length + b.length ≤ sizeLine) (.ok (.lst (a ++ b)))
  | _, _ => .bad
theorem p_cat : P2 pCat dCat := fun E x y n R h => by
  unfold dCat at h
  split at h
  · exact wp_chk.mp h
  · exact h.elim
def dEqB (f : Bool → Bool) (x y : T) : D T := match x, y with
  | .str a, .str b => .ok (.bl (f (decide (a = b))))
  | .int a, .int b => .ok (.bl (f (decide (a = b))))
  | .bl a, .bl b => .ok (.bl (f (decide (a = b))))
  | x, y => match T.dat x, T.dat y with
    | some d, some e => chk (SeqAt.shaped d = true ∧ SeqAt.shaped e = true) (.ok (.bl (f (PyData.eqv d e))))
    | _, _ => .bad
theorem p_eqB {f : Bool → Bool} : P2 (pEqB f) (dEqB f) := fun E x y n R h => by
  unfold dEqB at h
  split at h
  · exact h
  · exact h
  · exact h
  · rename_i h1 h2 h3
    split at h
    · rename_i d e hd he
      have q := wp_chk.mp h
      unfold pEqB
      split
      · exact (h1 _ _ rfl rfl).elim
      · exact (h2 _ _ rfl rfl).elim
      · exact (h3 _ _ rfl rfl).elim
      · rw [hd, he]; exact ⟨q.1.1, q.1.2, q.2⟩
    · exact h.elim
abbrev dEq := dEqB id
abbrev dNe := dEqB not
def dOrd (gi : Int → Int → Bool) (gs : List Nat → List Nat → Bool) : T → T → D T
  | .int i, .int j => .ok (.bl (gi i j))
  | .str i, .str j => .ok (.bl (gs i.cps.toList j.cps.toList))
  | _, _ => .bad
theorem p_ord {gi : Int → Int → Bool} {gs : List Nat → List Nat → Bool} : P2 (pOrd gi gs) (dOrd gi gs) := fun E x y n R h => by
  unfold dOrd at h
  split at h
  · exact h
  · exact h
  · exact h.elim
abbrev dLt := dOrd (fun i j => decide (i < j)) (fun i j => decide (i < j))
abbrev dLe := dOrd (fun i j => decide (i ≤ j)) (fun i j => !decide (j < i))
abbrev dGt := dOrd (fun i j => decide (j < i)) (fun i j => decide (j < i))
abbrev dGe := dOrd (fun i j => decide (j ≤ i)) (fun i j => !decide (i < j))
def dIsB (f : Bool → Bool) (x y : T) : D T := match x, y with
  | .bl a, .bl b => .ok (.bl (f (decide (a = b))))
  | .non, .non => .ok (.bl (f true))
  | _, .non => .ok (.bl (f false))
  | _, _ => .bad
theorem p_isB {f : Bool → Bool} : P2 (pIsB f) (dIsB f) := fun E x y n R h => by
  unfold dIsB at h
  split at h
  · exact h
  · exact h
  · rename_i h1
    cases x with
    | non => exact (h1 rfl).elim
    | _ => exact h
  · exact h.elim
def dInB (f : Bool → Bool) (x y : T) : D T := match x, y with
  | .str a, .str b => .ok (.bl (f (strIn a b)))
  | x, .lst ys => chk (flatT x = true ∧ ys.all flatT = true) (.ok (.bl (f (inT x ys))))
  | x, .tup ys => chk (flatT x = true ∧ ys.all flatT = true) (.ok (.bl (f (inT x ys))))
  | _, _ => .bad
theorem p_inB {f : Bool → Bool} : P2 (pInB f) (dInB f) := fun E x y n R h => by
  unfold dInB at h
  split at h
  · exact h
  · have q := wp_chk.mp h; cases x <;> exact ⟨q.1.1, q.1.2, q.2⟩
  · have q := wp_chk.mp h; cases x <;> exact ⟨q.1.1, q.1.2, q.2⟩
  · exact h.elim
def dMul : T → T → D T
  | .int i, .int j => chk (CMul i j) (.ok (.int (i * j)))
  | .str z, .int i => chk (0 ≤ i ∧ i ≤ 1000 ∧ z.length ≤ 1000) (.ok (.str (strRep z i)))
  | .lst xs, .int i => chk (0 ≤ i ∧ i ≤ 100000 ∧ xs.length ≤ 100) (.ok (.lst (List.replicate i.toNat xs).flatten))
  | _, _ => .bad
theorem p_mul : P2 pMul dMul := fun E x y n R h => by
  unfold dMul at h
  split at h
  · exact wp_chk.mp h
  · exact wp_chk.mp h
  · exact wp_chk.mp h
  · exact h.elim
def dIx : T → T → D T
  | .lst xs, .int i => match L2.atI xs i with
    | some t => .ok t
    | none => .bad
  | .tup xs, .int i => match L2.atI xs i with
    | some t => .ok t
    | none => .bad
  | .str z, .int i => chk (z.length ≤ sizeLine) (match L2.atI z.cps.toList i with
    | some c => .ok (.str ⟨#[c]⟩)
    | none => .bad)
  | .scr ns, .int i => match L2.atI ns i with
    | some t => .ok (.int t)
    | none => .bad
  | _, _ => .bad
theorem p_ix : P2 pIx dIx := fun E x y n R h => by
  unfold dIx at h
  unfold pIx
  split at h
  · split at h
    · rename_i e; try dsimp only
      try rw [e]
      exact h
    · exact h.elim
  · split at h
    · rename_i e; try dsimp only
      try rw [e]
      exact h
    · exact h.elim
  · have q := wp_chk.mp h
    refine ⟨q.1, ?_⟩
    have q2 := q.2
    split at q2
    · rename_i e; try rw [e]
      exact q2
    · exact q2.elim
  · split at h
    · rename_i e; try dsimp only
      try rw [e]
      exact h
    · exact h.elim
  · exact h.elim
def dDGet (x y : T) : D T := match x, keyT y with
  | .dct kvs, some k => match valT kvs k with
    | some t => .ok t
    | none => .bad
  | _, _ => .bad
theorem p_dget : P2 pDGet dDGet := fun E x y n R h => by
  unfold dDGet at h
  unfold pDGet
  split at h
  · rename_i ek
    split at h
    · rename_i e; try rw [ek]
      try dsimp only
      try rw [e]
      exact h
    · exact h.elim
  · exact h.elim
def dDIn (f : Bool → Bool) (y x : T) : D T := match x, keyT y with
  | .dct kvs, some k => .ok (.bl (f (valT kvs k).isSome))
  | _, _ => .bad
theorem p_din {f : Bool → Bool} : P2 (pDIn f) (dDIn f) := fun E y x n R h => by
  unfold dDIn at h
  unfold pDIn
  split at h
  · rename_i ek; try rw [ek]
    exact h
  · exact h.elim
def dNeg : T → D T
  | .int i => .ok (.int (-i))
  | _ => .bad
theorem p_neg : P1 pNeg dNeg := fun E x n R h => by
  unfold dNeg at h
  split at h
  · exact h
  · exact h.elim
def dInv : T → D T
  | .int i => .ok (.int (Builtin.bitNot i))
  | _ => .bad
theorem p_inv : P1 pInv dInv := fun E x n R h => by
  unfold dInv at h
  split at h
  · exact h
  · exact h.elim
def dBin : T → D T
  | .int a => chk (0 ≤ a ∧ (binText a).length ≤ sizeLine) (.ok (.str (binText a)))
  | _ => .bad
theorem p_bin : P1 pBin dBin := fun E x n R h => by
  unfold dBin at h
  split at h
  · have q := wp_chk.mp h; exact ⟨q.1.1, q.1.2, q.2⟩
  · exact h.elim
/-! calls of built-ins -/
def dTup (xs : List T) : D T := chk (xs.length ≤ sizeLine) (.ok (.tup xs))
def dLst (xs : List T) : D T := chk (xs.length ≤ sizeLine) (.ok (.lst xs))
theorem p_tup : PN pTup dTup := fun E xs n R h => wp_chk.mp h
theorem p_lst : PN pLst dLst := fun E xs n R h => wp_chk.mp h
def dLen : List T → D T
  | [.str x] => chk (x.length ≤ sizeLine) (.ok (.int x.length))
  | [.lst x] => .ok (.int x.length)
  | [.tup x] => .ok (.int x.length)
  | [.scr x] => .ok (.int x.length)
  | _ => .bad
theorem p_len : PN pLen dLen := fun E xs n R h => by
  unfold dLen at h
  split at h
  · exact wp_chk.mp h
  · exact h
  · exact h
  · exact h
  · exact h.elim
def dIntX : List T → D T
  | [.str a] => match PySem.intText? a with
    | some n => chk (a.length ≤ 640) (.ok (.int n))
    | none => .bad
  | [.int i] => .ok (.int i)
  | [.bl b] => .ok (.int (if b = true then 1 else 0))
  | _ => .bad
theorem p_intX : PN pIntX dIntX := fun E xs n R h => by
  unfold dIntX at h
  split at h
  · rename_i a
    split at h
    · rename_i m e; show (match PySem.intText? a with | some n => a.length ≤ 640 ∧ _ | none => False); rw [e]; exact wp_chk.mp h
    · exact h.elim
  · exact h
  · exact h
  · exact h.elim
def dStr1 : List T → D T
  | [.int i] => chk (i.natAbs.log2 < 1920) (.ok (.str (toString i)))
  | _ => .bad
theorem p_str1 : PN pStr1 dStr1 := fun E xs n R h => by
  unfold dStr1 at h
  split at h
  · exact wp_chk.mp h
  · exact h.elim
def dAllAny (g : List Bool → Bool) : List T → D T
  | [.lst ts] => match blsOf ts with
    | some bs => .ok (.bl (g bs))
    | none => .bad
  | _ => .bad
theorem p_all {g : List Bool → Bool} : PN (pAllAny g) (dAllAny g) := fun E xs n R h => by
  unfold dAllAny at h
  unfold pAllAny
  split at h
  · split at h
    · rename_i e; try dsimp only
      try rw [e]
      exact h
    · exact h.elim
  · exact h.elim
abbrev dAll := dAllAny fun bs => bs.all id
abbrev dAny := dAllAny fun bs => bs.any id
def dMM (g : Int → Int → Int) : List T → D T
  | [.int i, .int j] => .ok (.int (g i j))
  | _ => .bad
theorem p_mm {g : Int → Int → Int} : PN (pMM g) (dMM g) := fun E xs n R h => by
  unfold dMM at h
  split at h
  · exact h
  · exact h.elim
abbrev dMin2 := dMM fun i j => if j < i then j else i
abbrev dMax2 := dMM fun i j => if j > i then j else i
def dListOf : List T → D T
  | [.lst ts] => .ok (.lst ts)
  | [.tup ts] => .ok (.lst ts)
  | [.scr ns] => .ok (.lst (ns.map T.int))
  | _ => .bad
theorem p_listOf : PN pListOf dListOf := fun E xs n R h => by
  unfold dListOf at h
  split at h
  · exact h
  · exact h
  · exact h
  · exact h.elim
def dTupOf : List T → D T
  | [.lst ts] => .ok (.tup ts)
  | [.tup ts] => .ok (.tup ts)
  | _ => .bad
theorem p_tupOf : PN pTupOf dTupOf := fun E xs n R h => by
  unfold dTupOf at h
  split at h
  · exact h
  · exact h
  · exact h.elim
def dIsi : List T → D T
  | [x, .ty c] => match tyName x with
    | some t => match kitB t c with
      | some b => .ok (.bl b)
      | none => .bad
    | none => .bad
  | _ => .bad
theorem p_isi : PN pIsi dIsi := fun E xs n R h => by
  unfold dIsi at h
  unfold pIsi
  split at h
  · split at h
    · rename_i e
      split at h
      · rename_i e2; try dsimp only
        try rw [e]
        try dsimp only
        try rw [e2]
        exact h
      · exact h.elim
    · exact h.elim
  · exact h.elim
/-! sorted: ints -/
def insI (x : Int) : List Int → List Int
  | [] => [x]
  | y :: r => if x ≤ y then x :: y :: r else y :: insI x r
def sortI : List Int → List Int
  | [] => []
  | x :: r => insI x (sortI r)
theorem insI_perm (x : Int) : ∀ l : List Int, (insI x l).Perm (x :: l)
  | [] => List.Perm.refl _
  | y :: r => by
    unfold insI
    split
    · exact List.Perm.refl _
    · exact ((insI_perm x r).cons y).trans (List.Perm.swap x y r)
theorem sortI_perm : ∀ l : List Int, (sortI l).Perm l
  | [] => List.Perm.refl _
  | x :: r => (insI_perm x (sortI r)).trans ((sortI_perm r).cons x)
theorem insI_sorted (x : Int) : ∀ l : List Int, l.Pairwise (· ≤ ·) → (insI x l).Pairwise (· ≤ ·)
  | [], _ => by simp [insI]
  | y :: r, h => by
    unfold insI
    have h' := List.pairwise_cons.mp h
    split
    · rename_i q
      refine List.pairwise_cons.mpr ⟨fun z hz => ?_, h⟩
      rcases List.mem_cons.mp hz with e | e
      · rw [e]; exact q
      · exact Int.le_trans q (h'.1 z e)
    · rename_i q
      refine List.pairwise_cons.mpr ⟨fun z hz => ?_, insI_sorted x r h'.2⟩
      rcases List.mem_cons.mp ((insI_perm x r).mem_iff.mp hz) with e | e
      · rw [e]; omega
      · exact h'.1 z e
theorem sortI_sorted : ∀ l : List Int, (sortI l).Pairwise (· ≤ ·)
  | [] => List.Pairwise.nil
  | x :: r => insI_sorted x _ (sortI_sorted r)
theorem sorted_unique : ∀ {l l' : List Int}, l.Perm l' → l.Pairwise (· ≤ ·) → l'.Pairwise (· ≤ ·) → l = l'
  | [], l', p, _, _ => by rw [p.nil_eq]
  | x :: r, [], p, _, _ => by have := p.length_eq; simp at this
  | x :: r, y :: s, p, h, h' => by
    have a := List.pairwise_cons.mp h
    have b := List.pairwise_cons.mp h'
    have e : x = y := by
      have h1 : x ∈ y :: s := p.mem_iff.mp (List.mem_cons_self ..)
      have h2 : y ∈ x :: r := p.mem_iff.mpr (List.mem_cons_self ..)
      rcases List.mem_cons.mp h1 with z | z
      · exact z
      · rcases List.mem_cons.mp h2 with w | w
        · exact w.symm
        · have := b.1 x z
          have := a.1 y w
          omega
    subst e
    rw [sorted_unique p.cons_inv a.2 b.2]
def dSortI : List T → D T
  | [.lst ts] => match intsOf ts with
    | some ns => .ok (.lst ((sortI ns).map T.int))
    | none => .bad
  | _ => .bad
theorem p_sortI : PN pSortI dSortI := fun E xs n R h => by
  unfold dSortI at h
  unfold pSortI
  split at h
  · split at h
    · rename_i ns e; try dsimp only
      try rw [e]
      intro ns' hp hs
      rw [sorted_unique (hp.trans (sortI_perm ns).symm) hs (sortI_sorted ns)]
      exact h
    · exact h.elim
  · exact h.elim
/-! sorted: strings -/
open PySem.Spec (ltCps)
open PyProof.Rows (risingS sortedS)
theorem lt_irr : ∀ a : List Nat, ltCps a a = false
  | [] => rfl
  | a :: r => by simp [ltCps, lt_irr r]
theorem lt_le_tr : ∀ {a b c : List Nat}, ltCps b a = false → ltCps c b = false → ltCps c a = false
  | [], b, c, h, h' => by
    cases b with
    | nil => exact h'
    | cons b t => cases c with
      | nil => cases h'
      | cons c u => rfl
  | a :: r, [], c, h, h' => by cases h
  | a :: r, b :: t, [], h, h' => by cases h'
  | a :: r, b :: t, c :: u, h, h' => by
    simp only [ltCps, Bool.or_eq_false_iff, decide_eq_false_iff_not, Bool.and_eq_false_iff, beq_eq_false_iff_ne] at h h' ⊢
    refine ⟨by omega, ?_⟩
    by_cases e : c = a
    · have e1 : b = a := by omega
      refine .inr (lt_le_tr (b := t) ?_ ?_)
      · exact h.2.resolve_left (fun q => q e1)
      · exact h'.2.resolve_left (fun q => q (by omega))
    · exact .inl e
theorem lt_le_anti : ∀ {a b : List Nat}, ltCps b a = false → ltCps a b = false → a = b
  | [], [], _, _ => rfl
  | [], b :: t, _, h => by cases h
  | a :: r, [], h, _ => by cases h
  | a :: r, b :: t, h, h' => by
    simp only [ltCps, Bool.or_eq_false_iff, decide_eq_false_iff_not, Bool.and_eq_false_iff, beq_eq_false_iff_ne] at h h'
    have e : a = b := by omega
    rw [e, lt_le_anti (h.2.resolve_left (fun q => q e.symm)) (h'.2.resolve_left (fun q => q e))]
theorem lt_asym : ∀ {a b : List Nat}, ltCps a b = true → ltCps b a = false
  | [], [], h => by cases h
  | [], b :: t, _ => rfl
  | a :: r, [], h => by cases h
  | a :: r, b :: t, h => by
    simp only [ltCps, Bool.or_eq_true, decide_eq_true_eq, Bool.and_eq_true, beq_iff_eq] at h
    simp only [ltCps, Bool.or_eq_false_iff, decide_eq_false_iff_not, Bool.and_eq_false_iff, beq_eq_false_iff_ne]
    rcases h with h | ⟨h, h'⟩
    · exact ⟨by omega, .inl (by omega)⟩
    · exact ⟨by omega, .inr (lt_asym h')⟩
def leS (a b : Str) : Prop := ltCps b.cps.toList a.cps.toList = false
def insS (x : Str) : List Str → List Str
  | [] => [x]
  | y :: r => if ltCps y.cps.toList x.cps.toList = true then y :: insS x r else x :: y :: r
def sortS : List Str → List Str
  | [] => []
  | x :: r => insS x (sortS r)
theorem insS_perm (x : Str) : ∀ l : List Str, (insS x l).Perm (x :: l)
  | [] => List.Perm.refl _
  | y :: r => by
    unfold insS
    split
    · exact ((insS_perm x r).cons y).trans (List.Perm.swap x y r)
    · exact List.Perm.refl _
theorem sortS_perm : ∀ l : List Str, (sortS l).Perm l
  | [] => List.Perm.refl _
  | x :: r => (insS_perm x (sortS r)).trans ((sortS_perm r).cons x)
theorem insS_sorted (x : Str) : ∀ l : List Str, l.Pairwise leS → (insS x l).Pairwise leS
  | [], _ => by simp [insS]
  | y :: r, h => by
    unfold insS
    have h' := List.pairwise_cons.mp h
    split
    · rename_i q
      refine List.pairwise_cons.mpr ⟨fun z hz => ?_, insS_sorted x r h'.2⟩
      rcases List.mem_cons.mp ((insS_perm x r).mem_iff.mp hz) with e | e
      · rw [e]; exact lt_asym q
      · exact h'.1 z e
    · rename_i q
      have q : leS x y := by unfold leS; simpa using q
      refine List.pairwise_cons.mpr ⟨fun z hz => ?_, h⟩
      rcases List.mem_cons.mp hz with e | e
      · rw [e]; exact q
      · exact lt_le_tr q (h'.1 z e)
theorem sortS_sorted : ∀ l : List Str, (sortS l).Pairwise leS
  | [] => List.Pairwise.nil
  | x :: r => insS_sorted x _ (sortS_sorted r)
theorem str_cps {x y : Str} (h : x.cps.toList = y.cps.toList) : x = y := by
  cases x; cases y
  congr 1
  exact Array.toList_inj.mp h
theorem sortedS_unique : ∀ {l l' : List Str}, l.Perm l' → l.Pairwise leS → l'.Pairwise leS → l = l'
  | [], l', p, _, _ => by rw [p.nil_eq]
  | x :: r, [], p, _, _ => by have := p.length_eq; simp at this
  | x :: r, y :: s, p, h, h' => by
    have a := List.pairwise_cons.mp h
    have b := List.pairwise_cons.mp h'
    have e : x = y := by
      have h1 : x ∈ y :: s := p.mem_iff.mp (List.mem_cons_self ..)
      have h2 : y ∈ x :: r := p.mem_iff.mpr (List.mem_cons_self ..)
      rcases List.mem_cons.mp h1 with z | z
      · exact z
      · rcases List.mem_cons.mp h2 with w | w
        · exact w.symm
        · exact str_cps (lt_le_anti (a.1 y w) (b.1 x z))
    subst e
    rw [sortedS_unique p.cons_inv a.2 b.2]
theorem rising_pw : ∀ {p : Str} {l : List Str}, risingS p l = true → (p :: l).Pairwise leS
  | p, [], _ => by simp
  | p, x :: r, h => by
    simp only [risingS, Bool.and_eq_true, Bool.not_eq_true'] at h
    have ih := rising_pw h.2
    refine List.pairwise_cons.mpr ⟨fun z hz => ?_, ih⟩
    rcases List.mem_cons.mp hz with e | e
    · rw [e]; exact h.1
    · exact lt_le_tr h.1 ((List.pairwise_cons.mp ih).1 z e)
theorem sortedS_pw : ∀ {l : List Str}, sortedS l = true → l.Pairwise leS
  | [], _ => List.Pairwise.nil
  | x :: r, h => rising_pw h
def dSortX : List T → D T
  | [.lst ts] => match intsOf ts with
    | some ns => .ok (.lst ((sortI ns).map T.int))
    | none => match strsOf ts with
      | some ss => chk (ss.length < 64) (.ok (.lst ((sortS ss).map T.str)))
      | none => .bad
  | _ => .bad
theorem p_sortX : PN pSortX dSortX := fun E xs n R h => by
  unfold dSortX at h
  unfold pSortX
  split at h
  · split at h
    · rename_i ns e; try dsimp only
      try rw [e]
      intro ns' hp hs
      rw [sorted_unique (hp.trans (sortI_perm ns).symm) hs (sortI_sorted ns)]
      exact h
    · rename_i e0
      split at h
      · rename_i ss e; try dsimp only
        try rw [e0]
        try dsimp only
        try rw [e]
        obtain ⟨h1, h2⟩ := wp_chk.mp h
        refine ⟨h1, fun ys hp hs => ?_⟩
        rw [sortedS_unique (hp.trans (sortS_perm ss).symm) (sortedS_pw hs) (sortS_sorted ss)]
        exact h2
      · exact h.elim
  · exact h.elim
/-! methods -/
def dMS (p : Str → List T → D T) (o : D T) (a : D (List T)) : D T := o.bind fun x => match x with
  | .str s => a.bind (p s)
  | _ => .bad
def dML (p : List T → List T → D T) (o : D T) (a : D (List T)) : D T := o.bind fun x => match x with
  | .lst s => a.bind (p s)
  | _ => .bad
def PMS (g : T → GN) (p : Str → List T → D T) : Prop := ∀ (E : XE) s xs n (R : T → Nat → Prop), wp E (p s xs) n R → g (.str s) xs fun z => R z n
def PML (g : T → GN) (p : List T → List T → D T) : Prop := ∀ (E : XE) s xs n (R : T → Nat → Prop), wp E (p s xs) n R → g (.lst s) xs fun z => R z n
section
variable {E : XE} {ts : Env} {fa : WE} {fs : WA} {da : D T} {ds : D (List T)}
theorem u_ms {g : T → GN} {p : Str → List T → D T} (h : PMS g p) (ho : RE_ E fa ts da) (ha : RA_ E fs ts ds) : RE_ E (wMk kdStr g fa fs) ts (dMS p da ds) := fun n R q =>
  ho n _ (wp_mono (wp_bind.mp q) fun x n1 q1 => by
    split at q1
    · exact ⟨trivial, ha n1 _ (wp_mono (wp_bind.mp q1) fun y n2 q2 => h E _ y n2 R q2)⟩
    · exact q1.elim)
theorem u_ml {g : T → GN} {p : List T → List T → D T} (h : PML g p) (ho : RE_ E fa ts da) (ha : RA_ E fs ts ds) : RE_ E (wMk kdLst g fa fs) ts (dML p da ds) := fun n R q =>
  ho n _ (wp_mono (wp_bind.mp q) fun x n1 q1 => by
    split at q1
    · exact ⟨trivial, ha n1 _ (wp_mono (wp_bind.mp q1) fun y n2 q2 => h E _ y n2 R q2)⟩
    · exact q1.elim)
end
def sSplit (a : Str) : List T → D T
  | [.str b] => chk ((b.length == 0) = false ∧ a.length + 2 ≤ sizeLine) (.ok (.lst ((Txt.split a b).map T.str)))
  | _ => .bad
theorem p_split : PMS mSplit sSplit := fun E s xs n R h => by
  unfold sSplit at h
  split at h
  · have q := wp_chk.mp h; exact ⟨q.1.1, q.1.2, q.2⟩
  · exact h.elim
def sJoin (a : Str) : List T → D T
  | [.lst ts] => match strsOf ts with
    | some ys => chk ((ys.map (·.length)).sum + ys.length * a.length ≤ 16777216) (.ok (.str (Txt.join a ys)))
    | none => .bad
  | _ => .bad
theorem p_join : PMS mJoin sJoin := fun E s xs n R h => by
  unfold sJoin at h
  unfold mJoin
  split at h
  · split at h
    · rename_i e; try dsimp only
      try rw [e]
      exact wp_chk.mp h
    · exact h.elim
  · exact h.elim
def s1B (g : Str → Str → Bool) (a : Str) : List T → D T
  | [.str b] => .ok (.bl (g a b))
  | _ => .bad
theorem p_s1B {g : Str → Str → Bool} : PMS (mS1B g) (s1B g) := fun E s xs n R h => by
  unfold s1B at h
  split at h
  · exact h
  · exact h.elim
def s1I (g : Str → Str → Int) (a : Str) : List T → D T
  | [.str b] => .ok (.int (g a b))
  | _ => .bad
theorem p_s1I {g : Str → Str → Int} : PMS (mS1I g) (s1I g) := fun E s xs n R h => by
  unfold s1I at h
  split at h
  · exact h
  · exact h.elim
def sIdx (a : Str) : List T → D T
  | [.str b] => match Builtin.Str.occurrences a b 0 a.length 1 with
    | i :: _ => .ok (.int (i : Nat))
    | [] => .bad
  | _ => .bad
theorem p_sIdx : PMS mSIdx sIdx := fun E s xs n R h => by
  unfold sIdx at h
  unfold mSIdx
  split at h
  · split at h
    · rename_i e; try dsimp only
      try rw [e]
      exact h
    · exact h.elim
  · exact h.elim
def sPart (a : Str) : List T → D T
  | [.str b] => chk ((b.length == 0) = false ∧ a.length ≤ sizeLine) (.ok (.tup [.str (Txt.partition a b).1, .str (Txt.partition a b).2.1, .str (Txt.partition a b).2.2]))
  | _ => .bad
theorem p_part : PMS mPart sPart := fun E s xs n R h => by
  unfold sPart at h
  split at h
  · have q := wp_chk.mp h; exact ⟨q.1.1, q.1.2, q.2⟩
  · exact h.elim
/-- the first place of a thing -/
def placeT (y : T) : List T → Option Nat
  | [] => none
  | x :: r => if eqT x y = true then some 0 else (placeT y r).map (· + 1)
theorem placeT_ok {y : T} : ∀ {xs : List T} {j : Nat}, placeT y xs = some j → (∃ z, xs[j]? = some z ∧ eqT z y = true) ∧ ∀ m z, m < j → xs[m]? = some z → eqT z y = false
  | [], j, e => by cases e
  | x :: r, j, e => by
    unfold placeT at e
    by_cases q : eqT x y = true
    · rw [if_pos q] at e; cases e
      exact ⟨⟨x, rfl, q⟩, fun m z hm _ => absurd hm (Nat.not_lt_zero m)⟩
    · rw [if_neg q] at e
      cases h : placeT y r with
      | none => rw [h] at e; cases e
      | some i =>
        rw [h] at e; cases e
        obtain ⟨h1, h2⟩ := placeT_ok h
        refine ⟨by simpa using h1, fun m z hm hz => ?_⟩
        cases m with
        | zero => simp at hz; rw [← hz]; simpa using q
        | succ m => exact h2 m z (Nat.lt_of_succ_lt_succ hm) (by simpa using hz)
def lIdx (xs : List T) : List T → D T
  | [y] => chk (flatT y = true ∧ xs.all flatT = true) (match placeT y xs with
    | some j => .ok (.int (j : Nat))
    | none => .bad)
  | _ => .bad
theorem p_lIdx : PML mLIdx lIdx := fun E s xs n R h => by
  unfold lIdx at h
  split at h
  · have q := wp_chk.mp h
    have q2 := q.2
    split at q2
    · rename_i j e
      obtain ⟨h1, h2⟩ := placeT_ok e
      exact ⟨q.1.1, q.1.2, j, h1, h2, q2⟩
    · exact q2.elim
  · exact h.elim
end TL
namespace TL
open PySem L2
/-! ### tests, choices -/
def asB : T → D Bool
  | .bl c => .ok c
  | _ => .bad
abbrev dB (d : D T) : D Bool := d.bind asB
def truD : T → D Bool
  | .non => .ok false
  | .bl c => .ok c
  | .int i => .ok (i != 0)
  | .str y => chk (y.length ≤ sizeLine) (.ok ((y.length : Int) != 0))
  | .lst xs => .ok (!xs.isEmpty)
  | .tup xs => .ok (!xs.isEmpty)
  | _ => .bad
abbrev dTru (d : D T) : D Bool := d.bind truD
def dTAnd (a b : D Bool) : D Bool := a.bind fun c => if c = true then b else .ok false
def dTOr (a b : D Bool) : D Bool := a.bind fun c => if c = true then .ok true else b
def dTNot (a : D Bool) : D Bool := a.bind fun c => .ok (!c)
def dIf {α : Type} (t : D Bool) (a b : D α) : D α := t.bind fun c => if c = true then a else b
def dAndV (a b : D T) : D T := a.bind fun x => match x with
  | .bl c => if c = true then b else .ok (.bl false)
  | _ => .bad
def dOrV (a b : D T) : D T := a.bind fun x => match x with
  | .bl c => if c = true then .ok (.bl true) else b
  | _ => .bad
def notD : T → D T
  | .bl c => .ok (.bl (!c))
  | _ => .bad
abbrev dNotV (a : D T) : D T := a.bind notD
section
variable {E : XE} {ts : Env} {fa fb fc f : WE} {t u : WT} {da db dc : D T} {dt du : D Bool}
theorem ut_b (h : RE_ E f ts da) : RT_ E (wB f) ts (dB da) := fun n R q => h n _ (wp_mono (wp_bind.mp q) fun x n1 q1 => by
  unfold asB at q1
  split at q1
  · exact q1
  · exact q1.elim)
theorem ut_tru (h : RE_ E f ts da) : RT_ E (wTru f) ts (dTru da) := fun n R q => h n _ (wp_mono (wp_bind.mp q) fun x n1 q1 => by
  unfold truD at q1
  split at q1
  · exact q1
  · exact q1
  · exact q1
  · exact wp_chk.mp q1
  · exact q1
  · exact q1
  · exact q1.elim)
theorem ut_and (h : RT_ E t ts dt) (h' : RT_ E u ts du) : RT_ E (wTAnd t u) ts (dTAnd dt du) := fun n R q => h n _ (wp_mono (wp_bind.mp q) fun c n1 q1 => by
  cases c
  · rw [if_neg (by decide)] at q1; rw [if_neg (by decide)]; exact q1
  · rw [if_pos rfl] at q1; rw [if_pos rfl]; exact h' n1 R q1)
theorem ut_or (h : RT_ E t ts dt) (h' : RT_ E u ts du) : RT_ E (wTOr t u) ts (dTOr dt du) := fun n R q => h n _ (wp_mono (wp_bind.mp q) fun c n1 q1 => by
  cases c
  · rw [if_neg (by decide)] at q1; rw [if_neg (by decide)]; exact h' n1 R q1
  · rw [if_pos rfl] at q1; rw [if_pos rfl]; exact q1)
theorem ut_not (h : RT_ E t ts dt) : RT_ E (wTNot t) ts (dTNot dt) := fun n R q => h n _ (wp_mono (wp_bind.mp q) fun c n1 q1 => q1)
theorem u_if (h : RT_ E t ts dt) (ha : RE_ E fa ts da) (hb : RE_ E fb ts db) : RE_ E (wIf t fa fb) ts (dIf dt da db) := fun n R q => h n _ (wp_mono (wp_bind.mp q) fun c n1 q1 => by
  cases c
  · rw [if_neg (by decide)] at q1; rw [if_neg (by decide)]; exact hb n1 R q1
  · rw [if_pos rfl] at q1; rw [if_pos rfl]; exact ha n1 R q1)
theorem u_and (ha : RE_ E fa ts da) (hb : RE_ E fb ts db) : RE_ E (wAndV fa fb) ts (dAndV da db) := fun n R q => ha n _ (wp_mono (wp_bind.mp q) fun x n1 q1 => by
  split at q1
  · rename_i c
    show if c = true then _ else _
    cases c
    · rw [if_neg (by decide)] at q1; rw [if_neg (by decide)]; exact q1
    · rw [if_pos rfl] at q1; rw [if_pos rfl]; exact hb n1 R q1
  · exact q1.elim)
theorem u_or (ha : RE_ E fa ts da) (hb : RE_ E fb ts db) : RE_ E (wOrV fa fb) ts (dOrV da db) := fun n R q => ha n _ (wp_mono (wp_bind.mp q) fun x n1 q1 => by
  split at q1
  · rename_i c
    show if c = true then _ else _
    cases c
    · rw [if_neg (by decide)] at q1; rw [if_neg (by decide)]; exact hb n1 R q1
    · rw [if_pos rfl] at q1; rw [if_pos rfl]; exact q1
  · exact q1.elim)
theorem u_not (ha : RE_ E fa ts da) : RE_ E (wNotV fa) ts (dNotV da) := fun n R q => ha n _ (wp_mono (wp_bind.mp q) fun x n1 q1 => by
  unfold notD at q1
  split at q1
  · exact q1
  · exact q1.elim)
/-- a op b op c -/
def dChain (p p' : T → T → D T) (a b c : D T) : D T := a.bind fun x => b.bind fun y => (p x y).bind fun z => match z with
  | .bl k => if k = true then c.bind fun w => p' y w else .ok (.bl false)
  | _ => .bad
theorem u_chain {g g' : G2} {p p' : T → T → D T} (hp : P2 g p) (hp' : P2 g' p') (ha : RE_ E fa ts da) (hb : RE_ E fb ts db) (hc : RE_ E fc ts dc) : RE_ E (wChain g g' fa fb fc) ts (dChain p p' da db dc) := fun n R q =>
  ha n _ (wp_mono (wp_bind.mp q) fun x n1 q1 => hb n1 _ (wp_mono (wp_bind.mp q1) fun y n2 q2 => by
    refine hp E x y n2 (fun z n2 => match z with
      | .bl k => if k = true then fc ts n2 fun w n3 => g' y w fun z => R z n3 else R (.bl false) n2
      | _ => False) (wp_mono (wp_bind.mp q2) fun z n3 q3 => ?_)
    split at q3
    · rename_i k
      show if k = true then _ else _
      cases k
      · rw [if_neg (by decide)] at q3; rw [if_neg (by decide)]; exact q3
      · rw [if_pos rfl] at q3; rw [if_pos rfl]; exact hc n3 _ (wp_mono (wp_bind.mp q3) fun w n4 q4 => hp' E y w n4 R q4)
    · exact q3.elim))
end
/-! ### slices -/
def partD : T → D (Option Int)
  | .int i => .ok (some i)
  | _ => .bad
abbrev dNoPart : D (Option Int) := .ok none
abbrev dPart (d : D T) : D (Option Int) := d.bind partD
def slD (x : T) (lo hi : Option Int) : D T := match x with
  | .str z => chk (z.length ≤ sizeLine) (.ok (.str (cutS z lo hi)))
  | .lst xs => .ok (.lst (cutT xs lo hi))
  | .tup xs => .ok (.tup (cutT xs lo hi))
  | _ => .bad
abbrev dSl (a : D T) (l h : D (Option Int)) : D T := a.bind fun x => l.bind fun i => h.bind fun j => slD x i j
section
variable {E : XE} {ts : Env} {f fe : WE} {fl fh : WO} {da : D T} {dl dh : D (Option Int)}
theorem uo_none : RO_ E wNoPart ts dNoPart := fun n R q => q
theorem uo_some (h : RE_ E f ts da) : RO_ E (wPart f) ts (dPart da) := fun n R q => h n _ (wp_mono (wp_bind.mp q) fun x n1 q1 => by
  unfold partD at q1
  split at q1
  · exact q1
  · exact q1.elim)
theorem u_sl (ha : RE_ E fe ts da) (hl : RO_ E fl ts dl) (hh : RO_ E fh ts dh) : RE_ E (wSl fe fl fh) ts (dSl da dl dh) := fun n R q =>
  ha n _ (wp_mono (wp_bind.mp q) fun x n1 q1 => hl n1 _ (wp_mono (wp_bind.mp q1) fun l n2 q2 => hh n2 _ (wp_mono (wp_bind.mp q2) fun h n3 q3 => by
    unfold slD at q3
    split at q3
    · exact wp_chk.mp q3
    · exact q3
    · exact q3
    · exact q3.elim)))
end
/-! ### what is walked -/
def itemsD : T → D (List T)
  | .lst xs => .ok xs
  | .tup xs => .ok xs
  | .str z => .ok (signs z)
  | .scr ns => .ok (ns.map T.int)
  | _ => .bad
abbrev dSeq (d : D T) : D (List T) := d.bind itemsD
def rng1 : List T → D (List T)
  | [.int j] => chk (-(2 ^ 62) ≤ j ∧ j < 2 ^ 62) (.ok (rangeT 0 j.toNat))
  | _ => .bad
def rng2 : List T → D (List T)
  | [.int i, .int j] => chk (-(2 ^ 62) ≤ i ∧ i < 2 ^ 62 ∧ -(2 ^ 62) ≤ j ∧ j < 2 ^ 62) (.ok (rangeT i (j - i).toNat))
  | _ => .bad
def enumD : List T → D (List T)
  | [x] => match x with
    | .tup _ => .bad
    | x => (itemsD x).bind fun ys => .ok (enumT ys)
  | _ => .bad
def zipD : List T → D (List T)
  | [x, y] => (itemsD x).bind fun us => (itemsD y).bind fun ws => .ok (zipT us ws)
  | _ => .bad
theorem items_ok {E : XE} {x : T} {n : Nat} {S : List T → Nat → Prop} (q : wp E (itemsD x) n S) : itemsT x fun xs => S xs n := by
  unfold itemsD at q
  split at q
  · exact q
  · exact q
  · exact q
  · exact q
  · exact q.elim
section
variable {E : XE} {ts : Env} {f : WE} {fs : WA} {da : D T} {ds : D (List T)}
theorem ui_seq (h : RE_ E f ts da) : RI_ E (wiSeq f) ts (dSeq da) := fun n R q => h n _ (wp_mono (wp_bind.mp q) fun x n1 q1 => items_ok q1)
theorem ui_rng1 (h : RA_ E fs ts ds) : RI_ E (wiRng1 fs) ts (ds.bind rng1) := fun n R q => h n _ (wp_mono (wp_bind.mp q) fun x n1 q1 => by
  unfold rng1 at q1
  split at q1
  · exact wp_chk.mp q1
  · exact q1.elim)
theorem ui_rng2 (h : RA_ E fs ts ds) : RI_ E (wiRng2 fs) ts (ds.bind rng2) := fun n R q => h n _ (wp_mono (wp_bind.mp q) fun x n1 q1 => by
  unfold rng2 at q1
  split at q1
  · exact wp_chk.mp q1
  · exact q1.elim)
theorem ui_enum (h : RA_ E fs ts ds) : RI_ E (wiEnum fs) ts (ds.bind enumD) := fun n R q => h n _ (wp_mono (wp_bind.mp q) fun xs n1 q1 => by
  unfold enumD at q1
  split at q1
  · rename_i x
    split at q1
    · exact q1.elim
    · rename_i hx
      refine ⟨?_, items_ok (S := fun ys n1 => R (enumT ys) n1) (wp_bind.mp q1)⟩
      cases x with
      | tup a => exact (hx a rfl).elim
      | _ => exact trivial
  · exact q1.elim)
theorem ui_zip (h : RA_ E fs ts ds) : RI_ E (wiZip fs) ts (ds.bind zipD) := fun n R q => h n _ (wp_mono (wp_bind.mp q) fun xs n1 q1 => by
  unfold zipD at q1
  split at q1
  · exact items_ok (S := fun us n1 => itemsT _ fun ws => R (zipT us ws) n1) (wp_mono (wp_bind.mp q1) fun us n2 q2 => items_ok (S := fun ws n2 => R (zipT us ws) n2) (wp_bind.mp q2))
  · exact q1.elim)
end
/-! ### comprehensions -/
def lcL (body : T → D (Option T)) : List T → List T → D T
  | [], acc => .ok (.lst acc)
  | x :: r, acc => (body x).nox.bind fun o => match o with
    | some y => chk (acc.length < sizeLine) (lcL body r (acc ++ [y]))
    | none => lcL body r acc
def lcD (xs : List T) (body : T → D (Option T)) : D T := lcL body xs []
abbrev lcB (dt : D Bool) (de : D T) : D (Option T) := dt.bind fun c => if c = true then de.bind fun y => .ok (some y) else .ok none
abbrev lcE (de : D T) : D (Option T) := de.bind fun y => .ok (some y)
def RL (E : XE) (tg : Tgt) (t : WT) (fe : WE) (ts : Env) (x : T) (b : D (Option T)) : Prop := ∀ n (S : Option T → Nat → Prop), wp E b n S → match tg.put x ts with
  | some ts1 => t ts1 n fun c n1 => if c = true then fe ts1 n1 fun y n2 => S (some y) n2 else S none n1
  | none => False
section
variable {E : XE} {ts : Env} {fi : WI} {tg : Tgt} {t : WT} {fe : WE} {vs : List Nat} {ds : D (List T)}
theorem u_lcL {body : T → D (Option T)} (hb : ∀ x, RL noX tg t fe ts x (body x)) {R : T → Nat → Prop} : ∀ (xs acc : List T) (n : Nat), wp E (lcL body xs acc) n R → wLcL tg t fe ts R xs acc n
  | [], acc, n, q => q
  | x :: r, acc, n, q => by
    have h := hb x n (fun o n1 => match o with
      | some y => acc.length < sizeLine ∧ wLcL tg t fe ts R r (acc ++ [y]) n1
      | none => wLcL tg t fe ts R r acc n1) (wp_mono (wp_nox (wp_bind.mp q)) fun o n1 q1 => by
        cases o with
        | some y => exact ⟨(wp_chk.mp q1).1, u_lcL hb r _ n1 (wp_chk.mp q1).2⟩
        | none => exact u_lcL hb r _ n1 q1)
    unfold wLcL
    split at h
    · rename_i ts1 e
      try rw [e]
      exact h
    · exact h.elim
theorem u_lc {body : T → D (Option T)} (hi : RI_ E fi ts ds) (hb : ∀ x, RL noX tg t fe (wipeT ts vs) x (body x)) : RE_ E (wLc fi tg t fe vs) ts (ds.bind fun xs => lcD xs body) := fun n R q =>
  hi n _ (wp_mono (wp_bind.mp q) fun xs n1 q1 => u_lcL hb xs [] n1 q1)
end
/-! tuples taken apart -/
def un2 {α : Type} (x : T) (k : T → T → D α) : D α := match x with
  | .tup [a, b] => k a b
  | _ => .bad
def un3 {α : Type} (x : T) (k : T → T → T → D α) : D α := match x with
  | .tup [a, b, c] => k a b c
  | _ => .bad
def un4 {α : Type} (x : T) (k : T → T → T → T → D α) : D α := match x with
  | .tup [a, b, c, d] => k a b c d
  | _ => .bad
def un5 {α : Type} (x : T) (k : T → T → T → T → T → D α) : D α := match x with
  | .tup [a, b, c, d, e] => k a b c d e
  | _ => .bad
section
variable {E : XE} {ts : Env} {t : WT} {fe : WE} {dt : D Bool} {de : D T} {x : T}
theorem rlT {tg : Tgt} {ts1 : Env} (e : tg.put x ts = some ts1) (ht : RT_ E t ts1 dt) (he : RE_ E fe ts1 de) : RL E tg t fe ts x (lcB dt de) := fun n S q => by
  rw [e]
  exact ht n _ (wp_mono (wp_bind.mp q) fun c n1 q1 => by
    cases c
    · rw [if_neg (by decide)] at q1; rw [if_neg (by decide)]; exact q1
    · rw [if_pos rfl] at q1; rw [if_pos rfl]; exact he n1 _ (wp_bind.mp q1))
theorem rlE {tg : Tgt} {ts1 : Env} (e : tg.put x ts = some ts1) (he : RE_ E fe ts1 de) : RL E tg wTrue fe ts x (lcE de) := fun n S q => by
  rw [e]
  exact (show (if true = true then fe ts1 n (fun y n2 => S (some y) n2) else S none n) by rw [if_pos rfl]; exact he n _ (wp_bind.mp q))
theorem rl1T {i : Nat} (ht : RT_ E t (ts.set i (.tr x)) dt) (he : RE_ E fe (ts.set i (.tr x)) de) : RL E (.one i) t fe ts x (lcB dt de) := rlT rfl ht he
theorem rl1E {i : Nat} (he : RE_ E fe (ts.set i (.tr x)) de) : RL E (.one i) wTrue fe ts x (lcE de) := rlE rfl he
theorem rl2T {i j : Nat} {dt : T → T → D Bool} {de : T → T → D T} (ht : ∀ a b, RT_ E t ((ts.set i (.tr a)).set j (.tr b)) (dt a b)) (he : ∀ a b, RE_ E fe ((ts.set i (.tr a)).set j (.tr b)) (de a b)) : RL E (.many [i, j]) t fe ts x (un2 x fun a b => lcB (dt a b) (de a b)) := fun n S q => by
  unfold un2 at q
  split at q
  · exact rlT (tg := .many [i, j]) (x := .tup [_, _]) (ts := ts) rfl (ht _ _) (he _ _) n S q
  · exact q.elim
theorem rl2E {i j : Nat} {de : T → T → D T} (he : ∀ a b, RE_ E fe ((ts.set i (.tr a)).set j (.tr b)) (de a b)) : RL E (.many [i, j]) wTrue fe ts x (un2 x fun a b => lcE (de a b)) := fun n S q => by
  unfold un2 at q
  split at q
  · exact rlE (tg := .many [i, j]) (x := .tup [_, _]) (ts := ts) rfl (he _ _) n S q
  · exact q.elim
theorem rl3T {i j k : Nat} {dt : T → T → T → D Bool} {de : T → T → T → D T} (ht : ∀ a b c, RT_ E t (((ts.set i (.tr a)).set j (.tr b)).set k (.tr c)) (dt a b c)) (he : ∀ a b c, RE_ E fe (((ts.set i (.tr a)).set j (.tr b)).set k (.tr c)) (de a b c)) : RL E (.many [i, j, k]) t fe ts x (un3 x fun a b c => lcB (dt a b c) (de a b c)) := fun n S q => by
  unfold un3 at q
  split at q
  · exact rlT (tg := .many [i, j, k]) (x := .tup [_, _, _]) (ts := ts) rfl (ht _ _ _) (he _ _ _) n S q
  · exact q.elim
theorem rl3E {i j k : Nat} {de : T → T → T → D T} (he : ∀ a b c, RE_ E fe (((ts.set i (.tr a)).set j (.tr b)).set k (.tr c)) (de a b c)) : RL E (.many [i, j, k]) wTrue fe ts x (un3 x fun a b c => lcE (de a b c)) := fun n S q => by
  unfold un3 at q
  split at q
  · exact rlE (tg := .many [i, j, k]) (x := .tup [_, _, _]) (ts := ts) rfl (he _ _ _) n S q
  · exact q.elim
end
/-! ### calls -/
def ft (L : List T → D T) : FT := fun ts n R E => wp E (L ts) n R
def L0 (u : D T) : List T → D T
  | [] => u
  | _ => .bad
def L1 (u : T → D T) : List T → D T
  | [a] => u a
  | _ => .bad
def L2_ (u : T → T → D T) : List T → D T
  | [a, b] => u a b
  | _ => .bad
def L3 (u : T → T → T → D T) : List T → D T
  | [a, b, c] => u a b c
  | _ => .bad
def L4 (u : T → T → T → T → D T) : List T → D T
  | [a, b, c, d] => u a b c d
  | _ => .bad
def L5 (u : T → T → T → T → T → D T) : List T → D T
  | [a, b, c, d, e] => u a b c d e
  | _ => .bad
def L6 (u : T → T → T → T → T → T → D T) : List T → D T
  | [a, b, c, d, e, f] => u a b c d e f
  | _ => .bad
section
variable {E : XE} {ts : Env} {fs fk : WA} {ds dk : D (List T)} {fa fb fc fd fe : WE} {da db dc dd de : D T}
theorem u_call {L : List T → D T} (ha : RA_ E fs ts ds) : RE_ E (wCall E (ft L) fs) ts (ds.bind L) := fun n R q => ha n _ (wp_bind.mp q)
theorem u_call0 {u : D T} : RE_ E (wCall E (ft (L0 u)) wNil) ts u := fun n R q => q
theorem u_call1 {u : T → D T} (ha : RE_ E fa ts da) : RE_ E (wCall E (ft (L1 u)) (wCons fa wNil)) ts (d1 u da) := fun n R q => ha n _ (wp_bind.mp q)
theorem u_call2 {u : T → T → D T} (ha : RE_ E fa ts da) (hb : RE_ E fb ts db) : RE_ E (wCall E (ft (L2_ u)) (wCons fa (wCons fb wNil))) ts (d2 u da db) := fun n R q => ha n _ (wp_mono (wp_bind.mp q) fun a n1 q1 => hb n1 _ (wp_bind.mp q1))
theorem u_call3 {u : T → T → T → D T} (ha : RE_ E fa ts da) (hb : RE_ E fb ts db) (hc : RE_ E fc ts dc) : RE_ E (wCall E (ft (L3 u)) (wCons fa (wCons fb (wCons fc wNil)))) ts (d3 u da db dc) := fun n R q => ha n _ (wp_mono (wp_bind.mp q) fun a n1 q1 => hb n1 _ (wp_mono (wp_bind.mp q1) fun b n2 q2 => hc n2 _ (wp_bind.mp q2)))
theorem u_call4 {u : T → T → T → T → D T} (ha : RE_ E fa ts da) (hb : RE_ E fb ts db) (hc : RE_ E fc ts dc) (hd : RE_ E fd ts dd) : RE_ E (wCall E (ft (L4 u)) (wCons fa (wCons fb (wCons fc (wCons fd wNil))))) ts (d4 u da db dc dd) := fun n R q => ha n _ (wp_mono (wp_bind.mp q) fun a n1 q1 => hb n1 _ (wp_mono (wp_bind.mp q1) fun b n2 q2 => hc n2 _ (wp_mono (wp_bind.mp q2) fun c n3 q3 => hd n3 _ (wp_bind.mp q3))))
theorem u_call5 {u : T → T → T → T → T → D T} (ha : RE_ E fa ts da) (hb : RE_ E fb ts db) (hc : RE_ E fc ts dc) (hd : RE_ E fd ts dd) (he : RE_ E fe ts de) : RE_ E (wCall E (ft (L5 u)) (wCons fa (wCons fb (wCons fc (wCons fd (wCons fe wNil)))))) ts (d5 u da db dc dd de) := fun n R q => ha n _ (wp_mono (wp_bind.mp q) fun a n1 q1 => hb n1 _ (wp_mono (wp_bind.mp q1) fun b n2 q2 => hc n2 _ (wp_mono (wp_bind.mp q2) fun c n3 q3 => hd n3 _ (wp_mono (wp_bind.mp q3) fun d n4 q4 => he n4 _ (wp_bind.mp q4)))))
theorem u_callK {L : List T → D T} {a b : Nat} {perm : List Nat} (ha : RA_ E fs ts ds) (hk : RA_ E fk ts dk) : RE_ E (wCallK E (ft L) a b perm fs fk) ts (ds.bind fun xs => dk.bind fun ys => L (gK a b perm xs ys)) := fun n R q => ha n _ (wp_mono (wp_bind.mp q) fun xs n1 q1 => hk n1 _ (wp_bind.mp q1))
theorem ft_len1 {u : T → D T} {l : List T} {n : Nat} {R : T → Nat → Prop} (h : ft (L1 u) l n R E) : l.length = 1 := by
  match l, h with
  | [_], _ => rfl
theorem ft_len0 {u : D T} {l : List T} {n : Nat} {R : T → Nat → Prop} (h : ft (L0 u) l n R E) : l.length = 0 := by
  match l, h with
  | [], _ => rfl
theorem ft_len2 {u : T → T → D T} {l : List T} {n : Nat} {R : T → Nat → Prop} (h : ft (L2_ u) l n R E) : l.length = 2 := by
  match l, h with
  | [_, _], _ => rfl
theorem ft_len3 {u : T → T → T → D T} {l : List T} {n : Nat} {R : T → Nat → Prop} (h : ft (L3 u) l n R E) : l.length = 3 := by
  match l, h with
  | [_, _, _], _ => rfl
theorem ft_len4 {u : T → T → T → T → D T} {l : List T} {n : Nat} {R : T → Nat → Prop} (h : ft (L4 u) l n R E) : l.length = 4 := by
  match l, h with
  | [_, _, _, _], _ => rfl
theorem ft_len5 {u : T → T → T → T → T → D T} {l : List T} {n : Nat} {R : T → Nat → Prop} (h : ft (L5 u) l n R E) : l.length = 5 := by
  match l, h with
  | [_, _, _, _, _], _ => rfl
theorem ft_len6 {u : T → T → T → T → T → T → D T} {l : List T} {n : Nat} {R : T → Nat → Prop} (h : ft (L6 u) l n R E) : l.length = 6 := by
  match l, h with
  | [_, _, _, _, _, _], _ => rfl
/-! the draw -/
def U_next : T → T → D T
  | .mach, .int many => chk (0 < many ∧ many < 1073741824) (.draw many.toNat fun r => .ok (.int (r : Nat)))
  | _, _ => .bad
theorem next_ok {l : List T} {n : Nat} {R : T → Nat → Prop} (h : ft (L2_ U_next) l n R E) : F_next l n R E := by
  match l, h with
  | [x, y], h =>
    change wp E (U_next x y) n R at h
    unfold U_next at h
    split at h
    · rename_i many
      obtain ⟨⟨h1, h2⟩, h3, h4⟩ := wp_chk.mp h
      refine ⟨many, rfl, h1, h2, h3.2.2, fun r h0 h1 => ?_⟩
      have := h4 r.toNat (by omega)
      have e : ((r.toNat : Nat) : Int) = r := by omega
      dsimp only at this
      rw [e] at this
      exact this
    · exact h.elim
theorem u_next (ha : RE_ E fa ts da) (hb : RE_ E fb ts db) : RE_ E (wCall E F_next (wCons fa (wCons fb wNil))) ts (d2 U_next da db) := fun n R q => ha n _ (wp_mono (wp_bind.mp q) fun a n1 q1 => hb n1 _ (wp_mono (wp_bind.mp q1) fun b n2 q2 => next_ok (E := E) (l := [a, b]) q2))
/-! others -/
def dFlat (d : D T) : D T := d.bind fun r => chk (flatT r = true) (.ok r)
theorem u_bor (h : RE_ noX fa (ts.map Sl.see) da) : RE_ E (wBor fa) ts (dFlat da.nox) := fun n R q => h n _ (wp_mono (wp_nox (wp_bind.mp q)) fun r n1 q1 => wp_chk.mp q1)
theorem ut_bor {t : WT} {dt : D Bool} (h : RT_ noX t (ts.map Sl.see) dt) : RT_ E (wBorT t) ts dt.nox := fun n R q => h n R (wp_nox q)
instance (a b : Int) : Decidable (RgOk a b) := by unfold RgOk; infer_instance
def listRng : T → D T
  | .int b => chk (RgOk 0 b) (.ok (.lst (rgT 0 b)))
  | _ => .bad
theorem u_listRng (h : RE_ E fa ts da) : RE_ E (wListRng fa) ts (d1 listRng da) := fun n R q => h n _ (wp_mono (wp_bind.mp q) fun x n1 q1 => by
  unfold listRng at q1
  split at q1
  · exact wp_chk.mp q1
  · exact q1.elim)
/-! dicts written out -/
def RPs (E : XE) (f : WPs) (ts : Env) (d : D (List (T × T))) : Prop := ∀ n R, wp E d n R → f ts n R
abbrev dpNil : D (List (T × T)) := .ok []
abbrev dpCons (a b : D T) (r : D (List (T × T))) : D (List (T × T)) := a.bind fun x => b.bind fun y => r.bind fun l => .ok ((x, y) :: l)
theorem up_nil : RPs E wpsNil ts dpNil := fun n R q => q
theorem up_cons {fp : WPs} {dp : D (List (T × T))} (ha : RE_ E fa ts da) (hb : RE_ E fb ts db) (hp : RPs E fp ts dp) : RPs E (wpsCons fa fb fp) ts (dpCons da db dp) := fun n R q => ha n _ (wp_mono (wp_bind.mp q) fun a n1 q1 => hb n1 _ (wp_mono (wp_bind.mp q1) fun b n2 q2 => hp n2 _ (wp_bind.mp q2)))
def dispD (ps : List (T × T)) : D T := match kvsOf ps with
  | some kts => chk (kts.length ≤ 15) (.ok (.dct (mergeT [] kts)))
  | none => .bad
theorem u_disp {fp : WPs} {dp : D (List (T × T))} (hp : RPs E fp ts dp) : RE_ E (wDisp fp) ts (dp.bind dispD) := fun n R q => hp n _ (wp_mono (wp_bind.mp q) fun ps n1 q1 => by
  unfold dispD at q1
  split at q1
  · rename_i e; try rw [e]
    exact wp_chk.mp q1
  · exact q1.elim)
end
end TL
namespace TL
open PySem L2
/-! ### statements -/
inductive Out (γ : Type) where
  | next (g : γ) | ret (t : T)
/-- always returns -/
def RR (E : XE) (w : WS) (ts : Env) (d : D T) : Prop := ∀ n (W : WEnds), wp E d n W.rt → w W ts n
/-- a def's body: falling off the end is None -/
def RF (E : XE) (w : WS) (ts : Env) (d : D T) : Prop := ∀ n (W : WEnds), (∀ ts' n', W.rt .non n' → W.nx ts' n') → wp E d n W.rt → w W ts n
/-- goes on -/
def RN {γ J : Type} (E : XE) (w : WS) (ts : Env) (d : D γ) (o : γ → J → Env) : Prop := ∀ n (W : WEnds), wp E d n (fun g n' => ∀ j, W.nx (o g j) n') → w W ts n
/-- goes on or returns -/
def RM {γ J : Type} (E : XE) (w : WS) (ts : Env) (d : D (Out γ)) (o : γ → J → Env) : Prop := ∀ n (W : WEnds), wp E d n (fun x n' => match x with | .next g => ∀ j, W.nx (o g j) n' | .ret t => W.rt t n') → w W ts n
abbrev dRet {γ : Type} (d : D T) : D (Out γ) := d.bind fun t => .ok (.ret t)
abbrev dNext {γ : Type} (d : D γ) : D (Out γ) := d.bind fun g => .ok (.next g)
def seqM {γ δ : Type} (k : γ → D (Out δ)) : Out γ → D (Out δ)
  | .next g => k g
  | .ret t => .ok (.ret t)
def finM {γ : Type} (k : γ → D T) : Out γ → D T
  | .next g => k g
  | .ret t => .ok t
section
variable {E : XE} {ts : Env} {a b w : WS} {f : WE} {t : WT} {da db : D T} {dt : D Bool} {γ J δ I : Type} {o : γ → J → Env} {p : δ → I → Env}
theorem rf_rr (h : RR E w ts da) : RF E w ts da := fun n W _ q => h n W q
theorem rf_nil : RF E wsNext ts (.ok .non) := fun n W k q => k ts n q
theorem rf_rn {d : D γ} (h : RN E w ts d o) : RF E w ts (d.bind fun _ => .ok .non) := fun n W k q => h n W (wp_mono (wp_bind.mp q) fun g n1 q1 j => k _ n1 q1)
theorem rf_rm {d : D (Out γ)} (h : RM E w ts d o) : RF E w ts (d.bind (finM fun _ => .ok .non)) := fun n W k q => h n W (wp_mono (wp_bind.mp q) fun x n1 q1 => by
  cases x with
  | next g => exact fun j => k _ n1 q1
  | ret t => exact q1)
theorem rf_seq {d : D γ} {k : γ → D T} (h : RN E a ts d o) (hb : ∀ g j, RF E b (o g j) (k g)) : RF E (wsSeq a b) ts (d.bind k) := fun n W kk q => h n _ (wp_mono (wp_bind.mp q) fun g n1 q1 j => hb g j n1 W kk q1)
theorem rf_seqM {d : D (Out γ)} {k : γ → D T} (h : RM E a ts d o) (hb : ∀ g j, RF E b (o g j) (k g)) : RF E (wsSeq a b) ts (d.bind (finM k)) := fun n W kk q => h n _ (wp_mono (wp_bind.mp q) fun x n1 q1 => by
  cases x with
  | next g => exact fun j => hb g j n1 W kk q1
  | ret t => exact q1)
theorem rf_if (ht : RT_ E t ts dt) (ha : RF E a ts da) (hb : RF E b ts db) : RF E (wsIf t a b) ts (dIf dt da db) := fun n W kk q => ht n _ (wp_mono (wp_bind.mp q) fun c n1 q1 => by
  cases c
  · rw [if_neg (by decide)] at q1; rw [if_neg (by decide)]; exact hb n1 W kk q1
  · rw [if_pos rfl] at q1; rw [if_pos rfl]; exact ha n1 W kk q1)
theorem rf_ifRet (ht : RT_ E t ts dt) (ha : RR E a ts da) (hb : RF E b ts db) : RF E (wsSeq (wsIf t a wsNext) b) ts (dIf dt da db) := fun n W kk q => ht n _ (wp_mono (wp_bind.mp q) fun c n1 q1 => by
  cases c
  · rw [if_neg (by decide)] at q1; rw [if_neg (by decide)]; exact hb n1 W kk q1
  · rw [if_pos rfl] at q1; rw [if_pos rfl]; exact ha n1 _ q1)
/-! always returns -/
theorem rr_ret (h : RE_ E f (ts.map Sl.see) da) : RR E (wsRet f) ts da := fun n W q => h n _ q
theorem rr_retN : RR E wsRetN ts (.ok .non) := fun n W q => q
theorem rr_never : RR E wsNever ts .bad := fun n W q => q
theorem rr_seq {d : D γ} {k : γ → D T} (h : RN E a ts d o) (hb : ∀ g j, RR E b (o g j) (k g)) : RR E (wsSeq a b) ts (d.bind k) := fun n W q => h n _ (wp_mono (wp_bind.mp q) fun g n1 q1 j => hb g j n1 W q1)
theorem rr_seqM {d : D (Out γ)} {k : γ → D T} (h : RM E a ts d o) (hb : ∀ g j, RR E b (o g j) (k g)) : RR E (wsSeq a b) ts (d.bind (finM k)) := fun n W q => h n _ (wp_mono (wp_bind.mp q) fun x n1 q1 => by
  cases x with
  | next g => exact fun j => hb g j n1 W q1
  | ret t => exact q1)
theorem rr_if (ht : RT_ E t ts dt) (ha : RR E a ts da) (hb : RR E b ts db) : RR E (wsIf t a b) ts (dIf dt da db) := fun n W q => ht n _ (wp_mono (wp_bind.mp q) fun c n1 q1 => by
  cases c
  · rw [if_neg (by decide)] at q1; rw [if_neg (by decide)]; exact hb n1 W q1
  · rw [if_pos rfl] at q1; rw [if_pos rfl]; exact ha n1 W q1)
theorem rr_ifRet (ht : RT_ E t ts dt) (ha : RR E a ts da) (hb : RR E b ts db) : RR E (wsSeq (wsIf t a wsNext) b) ts (dIf dt da db) := fun n W q => ht n _ (wp_mono (wp_bind.mp q) fun c n1 q1 => by
  cases c
  · rw [if_neg (by decide)] at q1; rw [if_neg (by decide)]; exact hb n1 W q1
  · rw [if_pos rfl] at q1; rw [if_pos rfl]; exact ha n1 _ q1)
/-! goes on -/
theorem rn_nil (g : γ) (j : J) (h : ts = o g j) : RN E wsNext ts (.ok g) fun g j => o g j := fun n W q => by rw [h]; exact q j
theorem rn_seq {d : D γ} {k : γ → D δ} (h : RN E a ts d o) (hb : ∀ g j, RN E b (o g j) (k g) p) : RN E (wsSeq a b) ts (d.bind k) p := fun n W q => h n _ (wp_mono (wp_bind.mp q) fun g n1 q1 j => hb g j n1 W q1)
theorem rn_fin {d : D γ} {k : γ → D δ} (h : RN E a ts d o) (hb : ∀ g j, RN E wsNext (o g j) (k g) p) : RN E a ts (d.bind k) p := fun n W q => h n _ (wp_mono (wp_bind.mp q) fun g n1 q1 j => hb g j n1 W q1)
theorem rn_if {da db : D γ} (ht : RT_ E t ts dt) (ha : RN E a ts da o) (hb : RN E b ts db o) : RN E (wsIf t a b) ts (dIf dt da db) o := fun n W q => ht n _ (wp_mono (wp_bind.mp q) fun c n1 q1 => by
  cases c
  · rw [if_neg (by decide)] at q1; rw [if_neg (by decide)]; exact hb n1 W q1
  · rw [if_pos rfl] at q1; rw [if_pos rfl]; exact ha n1 W q1)
/-! goes on or returns -/
theorem rm_nil (g : γ) (j : J) (h : ts = o g j) : RM E wsNext ts (.ok (.next g)) fun g j => o g j := fun n W q => by rw [h]; exact q j
theorem rm_rr (h : RR E w ts da) : RM E w ts (dRet da) o := fun n W q => h n W (wp_bind.mp q)
theorem rm_rn {d : D γ} (h : RN E w ts d o) : RM E w ts (dNext d) o := fun n W q => h n W (wp_bind.mp q)
theorem rm_seq {d : D γ} {k : γ → D (Out δ)} (h : RN E a ts d o) (hb : ∀ g j, RM E b (o g j) (k g) p) : RM E (wsSeq a b) ts (d.bind k) p := fun n W q => h n _ (wp_mono (wp_bind.mp q) fun g n1 q1 j => hb g j n1 W q1)
theorem rm_fin {d : D γ} {k : γ → D (Out δ)} (h : RN E a ts d o) (hb : ∀ g j, RM E wsNext (o g j) (k g) p) : RM E a ts (d.bind k) p := fun n W q => h n _ (wp_mono (wp_bind.mp q) fun g n1 q1 j => hb g j n1 W q1)
theorem rm_seqM {d : D (Out γ)} {k : γ → D (Out δ)} (h : RM E a ts d o) (hb : ∀ g j, RM E b (o g j) (k g) p) : RM E (wsSeq a b) ts (d.bind (seqM k)) p := fun n W q => h n _ (wp_mono (wp_bind.mp q) fun x n1 q1 => by
  cases x with
  | next g => exact fun j => hb g j n1 W q1
  | ret t => exact q1)
theorem rm_finM {d : D (Out γ)} {k : γ → D (Out δ)} (h : RM E a ts d o) (hb : ∀ g j, RM E wsNext (o g j) (k g) p) : RM E a ts (d.bind (seqM k)) p := fun n W q => h n _ (wp_mono (wp_bind.mp q) fun x n1 q1 => by
  cases x with
  | next g => exact fun j => hb g j n1 W q1
  | ret t => exact q1)
theorem rm_if {da db : D (Out γ)} (ht : RT_ E t ts dt) (ha : RM E a ts da o) (hb : RM E b ts db o) : RM E (wsIf t a b) ts (dIf dt da db) o := fun n W q => ht n _ (wp_mono (wp_bind.mp q) fun c n1 q1 => by
  cases c
  · rw [if_neg (by decide)] at q1; rw [if_neg (by decide)]; exact hb n1 W q1
  · rw [if_pos rfl] at q1; rw [if_pos rfl]; exact ha n1 W q1)
theorem rm_ifRet {db : D (Out γ)} (ht : RT_ E t ts dt) (ha : RR E a ts da) (hb : RM E b ts db o) : RM E (wsSeq (wsIf t a wsNext) b) ts (dIf dt (dRet da) db) o := fun n W q => ht n _ (wp_mono (wp_bind.mp q) fun c n1 q1 => by
  cases c
  · rw [if_neg (by decide)] at q1; rw [if_neg (by decide)]; exact hb n1 W q1
  · rw [if_pos rfl] at q1; rw [if_pos rfl]; exact ha n1 _ (wp_bind.mp q1))
end
/-! ### single statements -/
section
variable {E : XE} {ts : Env} {f fi : WE} {fa : WA} {da db : D T} {ds : D (List T)} {i j k : Nat}
theorem s_set (h : RE_ E f ts da) : RN E (wsSet i f) ts da fun x (_ : Unit) => ts.set i (.tr x) := fun n W q => h n _ (wp_mono q fun x n1 q1 => q1 ())
theorem s_own (h : RE_ E f ts da) : RN E (wsOwn i f) ts da fun x (_ : Unit) => ts.set i (.own x) := fun n W q => h n _ (wp_mono q fun x n1 q1 => q1 ())
theorem s_frz {γ J : Type} {w : WS} {d : D γ} {o : γ → J → Env} (h : RN E w (ts.map Sl.see) d o) : RN E (wsFrz w) ts d o := fun n W q => h n W q
theorem s_expr (h : RE_ E f ts da) : RN E (wsExpr f) ts (da.bind fun _ => .ok ()) fun (_ : Unit) (_ : Unit) => ts := fun n W q => h n _ (wp_mono (wp_bind.mp q) fun x n1 q1 => q1 ())
theorem s_aug {g : G2} {p : T → T → D T} {x : T} (e : ts[i]? = some (.tr x)) (hp : P2 g p) (h : RE_ E f ts da) : RN E (wsAug i f g) ts (da.bind fun y => p x y) fun z (_ : Unit) => ts.set i (.tr z) := fun n W q => by
  unfold wsAug
  rw [e]
  exact h n _ (wp_mono (wp_bind.mp q) fun y n1 q1 => hp E x y n1 (fun z n1 => W.nx (ts.set i (.tr z)) n1) (wp_mono q1 fun z n2 q2 => q2 ()))
def dApp (x : T) (d : D T) : D T := match x with
  | .lst xs => d.bind fun y => chk (xs.length < sizeLine) (.ok (.lst (xs ++ [y])))
  | _ => .bad
theorem s_app {x : T} (e : ts[i]? = some (.own x)) (h : RE_ E f ts da) : RN E (wsApp i f) ts (dApp x da) fun z (_ : Unit) => ts.set i (.own z) := fun n W q => by
  unfold wsApp
  unfold dApp at q
  rw [e]
  split at q
  · exact h n _ (wp_mono (wp_bind.mp q) fun y n1 q1 => ⟨(wp_chk.mp q1).1, (wp_chk.mp q1).2 ()⟩)
  · exact q.elim
/-- a.append(b.pop(e)): the two lists behind it -/
def dAppPop (x y : T) (d : D T) : D (T × T) := match x, y with
  | .lst xs, .lst ys => d.bind fun k => match k with
    | .int c => chk (-(2 ^ 63) ≤ c ∧ c < 2 ^ 63) (match seqIndex? c ys.length with
      | some m => match ys[m]? with
        | some y => chk (xs.length < sizeLine) (.ok (.lst (xs ++ [y]), .lst (ys.eraseIdx m)))
        | none => .bad
      | none => .bad)
    | _ => .bad
  | _, _ => .bad
theorem s_appPop {x y : T} (e : ts[i]? = some (.own x)) (e2 : ts[j]? = some (.own y)) (h : RE_ E f ts da) : RN E (wsAppPop i j f) ts (dAppPop x y da) fun z (_ : Unit) => (ts.set j (.own z.2)).set i (.own z.1) := fun n W q => by
  unfold wsAppPop
  unfold dAppPop at q
  rw [e, e2]
  split at q
  · rename_i xs ys
    refine h n _ (wp_mono (wp_bind.mp q) fun k n1 q1 => ?_)
    split at q1
    · rename_i c
      obtain ⟨q2, q3⟩ := wp_chk.mp q1
      refine ⟨q2, ?_⟩
      cases es : seqIndex? c ys.length with
      | none => rw [es] at q3; exact q3.elim
      | some m =>
        rw [es] at q3
        dsimp only at q3 ⊢
        cases ey : ys[m]? with
        | none => rw [ey] at q3; exact q3.elim
        | some y =>
          rw [ey] at q3
          dsimp only at q3 ⊢
          exact ⟨(wp_chk.mp q3).1, (wp_chk.mp q3).2 ()⟩
    · exact q1.elim
  · exact q.elim
theorem s_par (h : RE_ E f ts da) (h' : RE_ E fi ts db) : RN E (wsPar i j (wCons f (wCons fi wNil))) ts (da.bind fun x => db.bind fun y => .ok (x, y)) fun z (_ : Unit) => (ts.set i (.tr z.1)).set j (.tr z.2) := fun n W q =>
  h n _ (wp_mono (wp_bind.mp q) fun x n1 q1 => h' n1 _ (wp_mono (wp_bind.mp q1) fun y n2 q2 => q2 ()))
/-! several at once, some of them one's own -/
def RF_ (E : XE) (f : WAF) (ts : Env) (d : D (List T)) (bs : List Bool) : Prop := ∀ n R, wp E d n (fun xs n' => xs.length = bs.length → R (bs.zip xs) n') → f ts n R
theorem uf_nil : RF_ E wfNil ts dNil [] := fun n R q => q rfl
theorem uf_e {fr : WAF} {bs : List Bool} (h : RE_ E f ts da) (hr : RF_ E fr ts ds bs) : RF_ E (wfE f fr) ts (dCons da ds) (false :: bs) := fun n R q =>
  h n _ (wp_mono (wp_bind.mp q) fun x n1 q1 => hr n1 _ (wp_mono (wp_bind.mp q1) fun xs n2 q2 hl => q2 (by simp [hl])))
theorem uf_f {fr : WAF} {bs : List Bool} (h : RE_ E f ts da) (hr : RF_ E fr ts ds bs) : RF_ E (wfF f fr) ts (dCons da ds) (true :: bs) := fun n R q =>
  h n _ (wp_mono (wp_bind.mp q) fun x n1 q1 => hr n1 _ (wp_mono (wp_bind.mp q1) fun xs n2 q2 hl => q2 (by simp [hl])))
abbrev sl (b : Bool) (t : T) : Sl := if b = true then .own t else .tr t
def pr2 : List T → D (T × T)
  | [x, y] => .ok (x, y)
  | _ => .bad
def pr3 : List T → D (T × T × T)
  | [x, y, z] => .ok (x, y, z)
  | _ => .bad
theorem s_parF {fr : WAF} {b c : Bool} (h : RF_ E fr ts ds [b, c]) : RN E (wsParF [i, j] fr) ts (ds.bind pr2) fun z (_ : Unit) => (ts.set i (sl b z.1)).set j (sl c z.2) := fun n W q =>
  h n _ (wp_mono (wp_bind.mp q) fun xs n1 q1 hl => by
    match xs, hl with
    | [x, y], _ => exact ⟨rfl, q1 ()⟩)
theorem s_par3F {fr : WAF} {b c e : Bool} (h : RF_ E fr ts ds [b, c, e]) : RN E (wsParF [i, j, k] fr) ts (ds.bind pr3) fun z (_ : Unit) => ((ts.set i (sl b z.1)).set j (sl c z.2.1)).set k (sl e z.2.2) := fun n W q =>
  h n _ (wp_mono (wp_bind.mp q) fun xs n1 q1 hl => by
    match xs, hl with
    | [x, y, z], _ => exact ⟨rfl, q1 ()⟩)
end
/-! ### targets -/
def RG {γ : Type} (E : XE) (g : WG) (x : T) (ts : Env) (d : D γ) (o : γ → Env) : Prop := ∀ n (R : Env → Nat → Prop), wp E d n (fun c n' => R (o c) n') → g x ts n R
def dun2 (x : T) : D (T × T) := un2 x fun a b => .ok (a, b)
def dun3 (x : T) : D (T × T × T) := un3 x fun a b c => .ok (a, b, c)
def dun4 (x : T) : D (T × T × T × T) := un4 x fun a b c d => .ok (a, b, c, d)
def dun5 (x : T) : D (T × T × T × T × T) := un5 x fun a b c d e => .ok (a, b, c, d, e)
section
variable {E : XE} {ts : Env} {f fk : WE} {da dk : D T} {i j k l m : Nat} {x : T}
theorem g_1 : RG E (wgName i) x ts (.ok x) fun y => ts.set i (.tr y) := fun n R q => q
theorem g_2 : RG E (wgTup 2 (wgCons (wgName i) (wgCons (wgName j) wgNil))) x ts (dun2 x) fun y => (ts.set i (.tr y.1)).set j (.tr y.2) := fun n R q => by
  unfold dun2 un2 at q
  split at q
  · exact ⟨rfl, q⟩
  · exact q.elim
theorem g_3 : RG E (wgTup 3 (wgCons (wgName i) (wgCons (wgName j) (wgCons (wgName k) wgNil)))) x ts (dun3 x) fun y => ((ts.set i (.tr y.1)).set j (.tr y.2.1)).set k (.tr y.2.2) := fun n R q => by
  unfold dun3 un3 at q
  split at q
  · exact ⟨rfl, q⟩
  · exact q.elim
theorem g_4 : RG E (wgTup 4 (wgCons (wgName i) (wgCons (wgName j) (wgCons (wgName k) (wgCons (wgName l) wgNil))))) x ts (dun4 x) fun y => (((ts.set i (.tr y.1)).set j (.tr y.2.1)).set k (.tr y.2.2.1)).set l (.tr y.2.2.2) := fun n R q => by
  unfold dun4 un4 at q
  split at q
  · exact ⟨rfl, q⟩
  · exact q.elim
theorem g_5 : RG E (wgTup 5 (wgCons (wgName i) (wgCons (wgName j) (wgCons (wgName k) (wgCons (wgName l) (wgCons (wgName m) wgNil)))))) x ts (dun5 x) fun y => ((((ts.set i (.tr y.1)).set j (.tr y.2.1)).set k (.tr y.2.2.1)).set l (.tr y.2.2.2.1)).set m (.tr y.2.2.2.2) := fun n R q => by
  unfold dun5 un5 at q
  split at q
  · exact ⟨rfl, q⟩
  · exact q.elim
theorem s_asg {γ : Type} {g : WG} {dg : T → D γ} {o : T → γ → Env} (h : RE_ E f ts da) (hg : ∀ x, RG E g x ts (dg x) (o x)) : RN E (wsAsg f g) ts (da.bind fun x => (dg x).bind fun y => .ok (x, y)) fun z (_ : Unit) => o z.1 z.2 := fun n W q =>
  h n _ (wp_mono (wp_bind.mp q) fun x n1 q1 => hg x n1 _ (wp_mono (wp_bind.mp q1) fun y n2 q2 => q2 ()))
theorem s_asgN {γ : Type} {g : WG} {dg : T → D γ} {o : γ → Env} (h : RE_ E f ts da) (hg : ∀ x, RG E g x ts (dg x) o) : RN E (wsAsg f g) ts (da.bind dg) fun z (_ : Unit) => o z := fun n W q =>
  h n _ (wp_mono (wp_bind.mp q) fun x n1 q1 => hg x n1 _ (wp_mono q1 fun y n2 q2 => q2 ()))
/-- d[k] = v, l[k] = v: the thing behind it -/
def stD (c : T) (dk : D T) (r : T) : D T := match c with
  | .dct kvs => dk.nox.bind fun k => match keyT k with
    | some key => chk (kvs.length < sizeLine) (.ok (.dct (putT kvs key r)))
    | none => .bad
  | _ => .bad
def stL (c : T) (dk : D T) (r : T) : D T := match c with
  | .lst xs => dk.nox.bind fun k => match k with
    | .int j => match ixN xs.length j with
      | some m => .ok (.lst (xs.set m r))
      | none => .bad
    | _ => .bad
  | _ => .bad
theorem g_stD {c : T} (e : ts[i]? = some (.own c)) (h : RE_ noX fk ts dk) : RG E (wgStD i fk) x ts (stD c dk x) fun z => ts.set i (.own z) := fun n R q => by
  unfold wgStD
  unfold stD at q
  rw [e]
  split at q
  · refine h n _ (wp_mono (wp_nox (wp_bind.mp q)) fun k n1 q1 => ?_)
    cases ek : keyT k with
    | none => rw [ek] at q1; exact q1.elim
    | some key => rw [ek] at q1; exact wp_chk.mp q1
  · exact q.elim
theorem g_stL {c : T} (e : ts[i]? = some (.own c)) (h : RE_ noX fk ts dk) : RG E (wgStL i fk) x ts (stL c dk x) fun z => ts.set i (.own z) := fun n R q => by
  unfold wgStL
  unfold stL at q
  rw [e]
  split at q
  · rename_i xs
    refine h n _ (wp_mono (wp_nox (wp_bind.mp q)) fun k n1 q1 => ?_)
    split at q1
    · rename_i j
      cases em : ixN xs.length j with
      | none => rw [em] at q1; exact q1.elim
      | some m =>
        rw [em] at q1
        try dsimp only
        try rw [em]
        exact q1
    · exact q1.elim
  · exact q.elim
end
/-! ### for -/
def forD {γ : Type} (body : T → γ → D γ) : List T → γ → D γ
  | [], g => .ok g
  | x :: r, g => (body x g).bind fun g' => forD body r g'
def forM {γ : Type} (body : T → γ → D (Out γ)) : List T → γ → D (Out γ)
  | [], g => .ok (.next g)
  | x :: r, g => (body x g).bind (seqM fun g' => forM body r g')
section
variable {E : XE} {ts : Env} {fi : WI} {wb : WS} {g : WG} {ds : D (List T)} {γ J δ : Type} {o : γ → J → Env} {dg : T → γ → D δ} {og : γ → J → δ → Env}
theorem rn_forL {db : T → γ → δ → D γ} (hg : ∀ x c j, RG E g x (o c j) (dg x c) (og c j)) (hb : ∀ x c j y, RN E wb (og c j y) (db x c y) o) {W : WEnds} : ∀ (xs : List T) (c : γ) (j : J) (n : Nat), wp E (forD (fun x c => (dg x c).bind fun y => db x c y) xs c) n (fun g n' => ∀ j, W.nx (o g j) n') → wFor g wb W xs (o c j) n
  | [], c, j, n, q => q j
  | x :: r, c, j, n, q => hg x c j n _ (by
      have q1 := wp_bind.mp (wp_bind.mp q)
      exact wp_mono q1 fun y n1 q2 => hb x c j y n1 { W with nx := wFor g wb W r, ct := wFor g wb W r, bk := W.nx } (wp_mono q2 fun c' n2 q3 j' => rn_forL hg hb r c' j' n2 q3))
theorem rn_for {db : T → γ → δ → D γ} (c0 : γ) (j0 : J) (h0 : ts = o c0 j0) (hi : RI_ E fi ts ds) (hg : ∀ x c j, RG E g x (o c j) (dg x c) (og c j)) (hb : ∀ x c j y, RN E wb (og c j y) (db x c y) o) :
    RN E (wsFor fi g wb) ts (ds.bind fun xs => forD (fun x c => (dg x c).bind fun y => db x c y) xs c0) o := fun n W q => hi n _ (wp_mono (wp_bind.mp q) fun xs n1 q1 => by rw [h0]; exact rn_forL hg hb xs c0 j0 n1 q1)
theorem rm_forL {db : T → γ → δ → D (Out γ)} (hg : ∀ x c j, RG E g x (o c j) (dg x c) (og c j)) (hb : ∀ x c j y, RM E wb (og c j y) (db x c y) o) {W : WEnds} : ∀ (xs : List T) (c : γ) (j : J) (n : Nat), wp E (forM (fun x c => (dg x c).bind fun y => db x c y) xs c) n (fun x n' => match x with | .next g => ∀ j, W.nx (o g j) n' | .ret t => W.rt t n') → wFor g wb W xs (o c j) n
  | [], c, j, n, q => q j
  | x :: r, c, j, n, q => hg x c j n _ (by
      have q1 := wp_bind.mp (wp_bind.mp q)
      exact wp_mono q1 fun y n1 q2 => hb x c j y n1 { W with nx := wFor g wb W r, ct := wFor g wb W r, bk := W.nx } (wp_mono q2 fun z n2 q3 => by
        cases z with
        | next c' => exact fun j' => rm_forL hg hb r c' j' n2 q3
        | ret t => exact q3))
theorem rm_for {db : T → γ → δ → D (Out γ)} (c0 : γ) (j0 : J) (h0 : ts = o c0 j0) (hi : RI_ E fi ts ds) (hg : ∀ x c j, RG E g x (o c j) (dg x c) (og c j)) (hb : ∀ x c j y, RM E wb (og c j y) (db x c y) o) :
    RM E (wsFor fi g wb) ts (ds.bind fun xs => forM (fun x c => (dg x c).bind fun y => db x c y) xs c0) o := fun n W q => hi n _ (wp_mono (wp_bind.mp q) fun xs n1 q1 => by rw [h0]; exact rm_forL hg hb xs c0 j0 n1 q1)
end
/-! ### the end of a def's body -/
theorem rf_hs {E : XE} {w : WS} {ts : Env} {d : D T} (h : RF E w ts d) (n : Nat) (R : T → Nat → Prop) (q : wp E d n R) : w { nx := fun _ n => R .non n, rt := R } ts n := h n _ (fun _ _ z => z) q
end TL
namespace TL
open PySem L2
def dRev : T → D T
  | .lst xs => .ok (.lst xs.reverse)
  | _ => .bad
theorem p_rev : P1 pRev dRev := fun E x n R h => by
  unfold dRev at h
  split at h
  · exact h
  · exact h.elim
def dGet1 (o e : D T) : D T := o.bind fun x => match x with
  | .dct kvs => e.bind fun y => match keyT y with
    | some k => .ok ((valT kvs k).getD .non)
    | none => .bad
  | _ => .bad
def dGet2 (o e f : D T) : D T := o.bind fun x => match x with
  | .dct kvs => e.bind fun y => match keyT y with
    | some k => f.bind fun z => .ok ((valT kvs k).getD z)
    | none => .bad
  | _ => .bad
section
variable {E : XE} {ts : Env} {fo fe ff : WE} {da db dc : D T}
theorem u_get1 (ho : RE_ E fo ts da) (he : RE_ E fe ts db) : RE_ E (wGet1 fo fe) ts (dGet1 da db) := fun n R q => ho n _ (wp_mono (wp_bind.mp q) fun x n1 q1 => by
  split at q1
  · refine he n1 _ (wp_mono (wp_bind.mp q1) fun y n2 q2 => ?_)
    split at q2
    · rename_i ek; try rw [ek]
      exact q2
    · exact q2.elim
  · exact q1.elim)
theorem u_get2 (ho : RE_ E fo ts da) (he : RE_ E fe ts db) (hf : RE_ E ff ts dc) : RE_ E (wGet2 fo fe ff) ts (dGet2 da db dc) := fun n R q => ho n _ (wp_mono (wp_bind.mp q) fun x n1 q1 => by
  split at q1
  · refine he n1 _ (wp_mono (wp_bind.mp q1) fun y n2 q2 => ?_)
    split at q2
    · rename_i ek; try rw [ek]
      exact hf n2 _ (wp_bind.mp q2)
    · exact q2.elim
  · exact q1.elim)
end
/-! several targets -/
def RGs {γ : Type} (E : XE) (g : WGs) (xs : List T) (ts : Env) (d : D γ) (o : γ → Env) : Prop := ∀ n (R : Env → Nat → Prop), wp E d n (fun c n' => R (o c) n') → g xs ts n R
section
variable {E : XE} {ts : Env} {g : WG} {gs : WGs} {x : T} {xs : List T} {γ δ : Type} {d : D γ} {o : γ → Env} {p : δ → Env}
theorem gs_nil (c : γ) (h : ts = o c) : RGs E wgNil [] ts (.ok c) fun c => o c := fun n R q => by
  have q' : R (o c) n := q
  rw [← h] at q'
  exact q'
theorem gs_cons {k : γ → D δ} (h : RG E g x ts d o) (hr : ∀ y, RGs E gs xs (o y) (k y) p) : RGs E (wgCons g gs) (x :: xs) ts (d.bind k) p := fun n R q => h n _ (wp_mono (wp_bind.mp q) fun y n1 q1 => hr y n1 R q1)
theorem gt_2 {k : T → T → D γ} (h : ∀ a b, RGs E gs [a, b] ts (k a b) o) : RG E (wgTup 2 gs) x ts (un2 x k) o := fun n R q => by
  unfold un2 at q
  split at q
  · exact ⟨rfl, h _ _ n R q⟩
  · exact q.elim
theorem gt_3 {k : T → T → T → D γ} (h : ∀ a b c, RGs E gs [a, b, c] ts (k a b c) o) : RG E (wgTup 3 gs) x ts (un3 x k) o := fun n R q => by
  unfold un3 at q
  split at q
  · exact ⟨rfl, h _ _ _ n R q⟩
  · exact q.elim
theorem gt_4 {k : T → T → T → T → D γ} (h : ∀ a b c e, RGs E gs [a, b, c, e] ts (k a b c e) o) : RG E (wgTup 4 gs) x ts (un4 x k) o := fun n R q => by
  unfold un4 at q
  split at q
  · exact ⟨rfl, h _ _ _ _ n R q⟩
  · exact q.elim
end
theorem rf_frz {E : XE} {w : WS} {ts : Env} {d : D T} (h : RF E w (ts.map Sl.see) d) : RF E (wsFrz w) ts d := fun n W k q => h n W k q
theorem rr_frz {E : XE} {w : WS} {ts : Env} {d : D T} (h : RR E w (ts.map Sl.see) d) : RR E (wsFrz w) ts d := fun n W q => h n W q
theorem rm_frz {γ J : Type} {E : XE} {w : WS} {ts : Env} {d : D (Out γ)} {o : γ → J → Env} (h : RM E w (ts.map Sl.see) d o) : RM E (wsFrz w) ts d o := fun n W q => h n W q
end TL
namespace TL
open PySem PySem.Spec PyProof.Rows L2
section
variable [Mach] [CN] [Xw]
/-! ### repr -/
def pRepr : GN := fun xs R => match xs with
  | [x] => match T.dat x with
    | some d => d.showable = true ∧ d.hasDict = false ∧ d.depth ≤ 60 ∧ d.shown.length ≤ sizeLine ∧ R (.str d.shown)
    | none => False
  | _ => False
abbrev rRepr (K : PySem.W.Frag) : List V → Hp → VK → Prop := fun xs H Q => ∃ v d, xs = [v] ∧ Dp K H v d ∧ d.showable = true ∧ d.hasDict = false ∧ d.depth ≤ 60 ∧ d.shown.length ≤ sizeLine ∧ Q (.str d.shown) H
theorem call_reprT {X : Cx} (hu : X.A.units + 64 < cLine) (hg : X.A.guards = some []) : CallR X (.builtin "repr") (rRepr X.K) := by
  intro pins s σ H xs us Q I r h
  obtain ⟨v, d, rfl, hd, h1, h2, h3, h4, q⟩ := h
  obtain ⟨u, rfl, rv⟩ := vals1 r
  obtain ⟨as, rd⟩ := Dp.reads I d v u hd rv
  cases hd with
  | non => cases rv; exact PySem.P.repr_of_none ⟨.str _, H, I.tok _, ⟨_, rfl⟩, q⟩
  | bl b =>
    cases rv
    refine PySem.P.repr_of_bool ⟨.str _, H, I.tok _, ⟨_, rfl⟩, ?_⟩
    cases b <;> exact q
  | int i =>
    obtain ⟨t, rfl⟩ := rv
    exact PySem.P.repr_of_int (by simpa [PyData.showable] using h1) ⟨.str _, H, I.tok _, ⟨_, rfl⟩, q⟩
  | str x =>
    obtain ⟨t, rfl⟩ := rv
    exact PySem.P.repr_of_str ⟨.str _, H, I.tok _, ⟨_, rfl⟩, q⟩ h4
  | lst e1 e2 =>
    cases rv
    exact repr_of_reads' rd h1 (PyData.noDict_hsm h2) hg (by omega) (fun _ _ e => e) (fun h' u tk hk => ⟨.str _, H, I.kept hk, ⟨_, rfl⟩, q⟩) h4
  | tup e1 e2 =>
    cases rv
    exact repr_of_reads' rd h1 (PyData.noDict_hsm h2) hg (by omega) (fun _ _ e => e) (fun h' u tk hk => ⟨.str _, H, I.kept hk, ⟨_, rfl⟩, q⟩) h4
theorem ok_repr {K : PySem.W.Frag} : RNOk K (rRepr K) pRepr := fun am Hs H n x vx R Q sp rx h k => by
  unfold pRepr at h
  split at h
  · rename_i t
    obtain ⟨v, rfl, r1⟩ := rx.one
    cases e : T.dat t with
    | none => rw [e] at h; exact h.elim
    | some d =>
      rw [e] at h
      exact ⟨v, d, rfl, dat_dp _ _ _ (Rep.mono sp.sub _ _ r1) e, h.1, h.2.1, h.2.2.1, h.2.2.2.1, k.here sp h.2.2.2.2 (by simp only [Rep])⟩
  · exact h.elim
end
def dRepr : List T → D T
  | [x] => match T.dat x with
    | some d => chk (d.showable = true ∧ d.hasDict = false ∧ d.depth ≤ 60 ∧ d.shown.length ≤ sizeLine) (.ok (.str d.shown))
    | none => .bad
  | _ => .bad
theorem p_repr : PN pRepr dRepr := fun E xs n R h => by
  unfold dRepr at h
  split at h
  · rename_i t
    cases e : T.dat t with
    | none => rw [e] at h; exact h.elim
    | some d =>
      rw [e] at h
      unfold pRepr
      show (match T.dat t with | some d => _ | none => False)
      rw [e]
      obtain ⟨⟨h1, h2, h3, h4⟩, h5⟩ := wp_chk.mp h
      exact ⟨h1, h2, h3, h4, h5⟩
  · exact h.elim
end TL
namespace TL
open PySem PySem.Calls PySem.Spec PyProof.Rows L2 PySem.W
open PySem.Builtin PySem.Builtin.ObjectAttr
/-! an own exception: __init__(self, x): super().__init__('..'); self.f = x -/
structure ExK (P : Program) (K : PySem.W.Frag) (C : Addr) (st : Stmt) (qual fld : Str) : Prop where
  base : ∃ (B newId i : String) (bmB : List Value), ExcBaseFacts B newId i bmB ∧ KxsFacts B i ∧ StoreFacts B bmB "object.__setattr__" "object" ∧ excInitIn K C bmB newId = true ∧ excOver K C bmB = true ∧ ks_superIn K C C "__init__" = some (some (.builtin i)) ∧ subIn K (.ref C) (.type B) = some true
  fn : ∃ (fI cda cc : Addr) (od an cdd cld : Option Addr) (kV doc pm ct ccl cl : Value) (osl ccs csl : Array (Option Value)) (vs : Array Value) (file : Str) (tf : Tok), findIn K (.ref C) "__init__" = some (some (.ref fI)) ∧
    K.lookup fI = some ⟨.type "function", od, .func (ksFn "__init__" qual (defArgs st) (defBody st) (defScope st) .none kV doc pm an (.ref cda) ct cc), osl⟩ ∧ codeIn K (.ref cda) qual = true ∧ K.lookup cda = some ⟨ccl, cdd, .fields vs, ccs⟩ ∧ vs[2]? = some (.str file tf) ∧ ((P.main.file : Str) == file) = true ∧
    K.lookup cc = some ⟨cl, cld, .cell (some (.ref C)), csl⟩
  cls : ∃ cd, clsIn K C = some cd ∧ cd.hasDict = true
  sa : findIn K (.ref C) "__setattr__" = some (some (.builtin "object.__setattr__"))
  tk : takerIn K C fld = some none
  opq : nsIn K cStatics "thirdparty.any" = some none
  sup : nsIn K mainGlobals "super" = some none
  exc : subIn K (.ref C) (.type "BaseException") = some true
  typ : typeIn K (.ref C) = some (.type "type")
  kep : keepIn K (.ref C) = true
  own : mroIn K C (.ref C) = some true
/-- the form of such an __init__ -/
structure InitIs (st : Stmt) (par fld : Str) : Prop where
  be : ∃ (p0 p1 p2 p3 p4 p5 p6 p7 p8 p9 : Pos) (j : Nat) (msg : Str), defBody st = [.Expr (.Call (.Attribute (.Call (.Name "super" p0) [] [] p1) "__init__" p2) [.Constant (.str msg) j p3] [] p4) p5, .Assign [.Attribute (.Name "self" p6) fld p7] (.Name par p8) p9] ∧
    ∀ env : PySem.Env, ∃ pl, eval (.Call (.Attribute (.Call (.Name "super" p0) [] [] p1) "__init__" p2) [.Constant (.str msg) j p3] [] p4) env = (do
      let ov ← attributeBase (.Call (.Name "super" p0) [] [] p1) "__init__" env (eval (.Call (.Name "super" p0) [] [] p1) env)
      standAt p2.atName
      let (f, first) ← holding [ov] (getMethod ov "__init__" pl)
      callWith p4 f first (backTo p4 (starEach [.Constant (.str msg) j p3] env)) [])
  bind : ∀ (qual : Str) (kV doc pm cdv ct : Value) (an : Option Addr) (cc : Addr) (us : List Value), us.length = 2 → bindArgs (ksFn "__init__" qual (defArgs st) (defBody st) (defScope st) .none kV doc pm an cdv ct cc) ⟨us, []⟩ = pure (([("self" : Str), par] : List Str).zip us)
  head : ((defArgs st).posonlyargs ++ (defArgs st).args).head?.map (·.arg) = some ("self" : Str)
  kind : (defScope st).kind = .function
  co : (defScope st).isCoroutine = false
  gen : (defScope st).isGenerator = false
  cell : ∀ x ∈ (defScope st).names, x.2 ≠ .cell
  self : (defScope st).names.lookup ("self" : Str) = some .local
  lpar : (defScope st).names.lookup par = some .local
  sup : (defScope st).names.lookup ("super" : Str) = some .globalImplicit
  cls : (defScope st).names.lookup ("__class__" : Str) = some .free
  ne : par ≠ ("self" : Str)
  dbg : (par == ("__debug__" : Str)) = false
section
variable {P : Program} {w : World} {A : Around} {E : Value → Shared → Prop} {K : PySem.W.Frag} {C : Addr} {st : Stmt} {qual par fld : Str} {h : Heap} {g : Array GenState} {d : Drawn} {t : Nat} {os : OsState} {mg mb : Str → Option Value} {u : Value}
theorem exc_make {Q : Value → Shared → Prop} (T : ExK P K C st qual fld) (S : InitIs st par fld) (X : K.In h) (hg : h.Ns mainGlobals mg) (hb : h.Ns builtinsNs mb) (hbb : ∀ x : Str, x ≠ "__name__" → mb x = bootBuiltins x) (hlim : h.NoLimit) (hroom : (A.under (.builtin "type.__call__" ⟨[.ref C, u], []⟩)).depth < recursionLimit)
    (htop : (P.main.scope.names.lookup ("super" : Str)).isSome = false)
    (hq : ∀ (a dx : Addr) (h' : Heap) (t' : Nat) (t1 : Addr), h.objs.size ≤ a → h.objs.size ≤ dx → dx ≠ a → (∀ b o, h.get? b = some o → h'.get? b = some o) → h'.get? a = some ({ cls := .ref C, dict := some dx, data := .fields #[.ref t1, .none, .none, .none, .bool false, .none] } : Obj) → h'.Ns1 dx (fun y => if y = fld then some u else none) → Q (.ref a) ⟨h', g, d, t', os⟩) :
    wpAny (model P w) A (call (.ref C) [u]) Q E ⟨h, g, d, t, os⟩ := by
  obtain ⟨B, newId, i, bmB, FB, KF, SF, q1, q2, q3, q4⟩ := T.base
  obtain ⟨fI, cda, cc, od, an, cdd, cld, kV, doc, pm, ct, ccl, cl, osl, ccs, csl, vs, file, tf, hi, hf, hcd, hcda, hvs, hfile, hcc⟩ := T.fn
  obtain ⟨cd, hcl, hdct⟩ := T.cls
  obtain ⟨p0, p1, p2, p3, p4, p5, p6, p7, p8, p9, j, msg, eb, evv⟩ := S.be
  obtain ⟨nm, N', qn, bs, bm, hdc, sn, sub, ab, col, dd, k0, k1, k2, k3, k5, hC, hT⟩ := excInit_of X q1
  have hfo := X _ _ hf
  refine wpAny_call (PX.call_own FB hT hC (looks_findIn X hi) (fun self => exc_bind hfo rfl self) (by show 1 ≤ sizeLine; decide) ?_)
  have kk : ∀ b o, h.get? b = some o → ((h.push (kdv_tup [u])).push (PX.excO C h.objs.size)).get? b = some o := fun b o e => Heap.get?_push_of_some _ (Heap.get?_push_of_some _ e)
  have hget : ((h.push (kdv_tup [u])).push (PX.excO C h.objs.size)).get? (h.objs.size + 1) = some (PX.excO C h.objs.size) := by heap_get
  have esz : (h.push (kdv_tup [u])).objs.size = h.objs.size + 1 := by simp [Heap.push]
  generalize (h.push (kdv_tup [u])).push (PX.excO C h.objs.size) = h1 at kk hget
  have ar : ∃ ar : Arg, ((defArgs st).posonlyargs ++ (defArgs st).args).head? = some ar ∧ ar.arg = "self" := by
    have := S.head
    cases e : ((defArgs st).posonlyargs ++ (defArgs st).args).head? with
    | none => rw [e] at this; cases this
    | some ar => rw [e] at this; exact ⟨ar, rfl, Option.some.inj this⟩
  obtain ⟨ar, ear, earg⟩ := ar
  refine ks_codeAny_call_defAt (fd := ksFn "__init__" qual (defArgs st) (defBody st) (defScope st) .none kV doc pm an (.ref cda) ct cc) (body := defBody st) (binds := [("self", .ref (h.objs.size + 1)), (par, u)]) ?_ (kk _ _ hfo) rfl (hlim.keeps kk) (codeRec_of (X.keeps kk) hcd) rfl (.of_eq (S.bind qual kV doc pm (.ref cda) ct an cc [.ref (h.objs.size + 1), u] rfl)) S.cell ?_ (fun h2 hns hk2 => ?_) S.co S.gen S.kind
  · exact hroom
  · intro x hx
    rcases List.mem_cons.mp hx with rfl | hx
    · exact S.self
    · rw [List.mem_singleton.mp hx]; exact S.lpar
  have X2 : K.In h2 := (X.keeps kk).keeps hk2
  have ka : ∀ b o, h.get? b = some o → h2.get? b = some o := fun b o e => hk2 b o (kk b o e)
  have he2 := hk2 _ _ hget
  rw [eb]
  obtain ⟨pl, ev⟩ := evv (callEnv (ksFn "__init__" qual (defArgs st) (defBody st) (defScope st) .none kV doc pm an (.ref cda) ct cc) h1.objs.size fI)
  rw [eb] at ev
  have hint : interactive (callEnv (ksFn "__init__" qual (defArgs st) (defBody st) (defScope st) .none kV doc pm an (.ref cda) ct cc) h1.objs.size fI) = false := by
    have hk : (callEnv (ksFn "__init__" qual (defArgs st) (defBody st) (defScope st) .none kV doc pm an (.ref cda) ct cc) h1.objs.size fI).scope.kind = .function := S.kind
    simp [interactive, hk]
  rw [eb] at hint
  refine ks_wpAt_execs_cons (ks_wpAt_Expr_any (ks_wpAt_MethodCall (ks_wpAt_super_base (cc := cda) S.sup S.cls (by decide) rfl (X2 _ _ hf) rfl ear rfl (X2 _ _ hcda) rfl hvs hfile htop ?_) ev) hint)
  obtain ⟨oD, hD1, hD2⟩ : ∃ oD, h2.get? C = some oD ∧ oD.data = .cls cd := by
    unfold clsIn at hcl
    split at hcl
    · rename_i c d cd' sl ho
      cases hcl
      exact ⟨_, X2 _ _ ho, rfl⟩
    · cases hcl
  have sne : (("self" : Str) == par) = false := by
    cases z : (("self" : Str) == par) with
    | false => rfl
    | true => exact absurd (eq_of_beq z).symm S.ne
  have hlk : ([(("self" : Str), Value.ref (h.objs.size + 1)), (par, u)] : List (Str × Value)).reverse.lookup ("self" : Str) = some (Value.ref (h.objs.size + 1)) := by
    show (match (("self" : Str) == par) with | true => some u | false => _) = _
    rw [sne]; rfl
  have hlp : ([(("self" : Str), Value.ref (h.objs.size + 1)), (par, u)] : List (Str × Value)).reverse.lookup par = some u := by
    show (match (par == par) with | true => some u | false => _) = _
    rw [beq_self_eq_true]
  refine ks_loadName_global S.kind S.sup (loadGlobal_builtin (hg.keeps ka) (mg_none_of X hg T.sup) (hb.keeps ka) ((hbb _ (by decide)).trans (by decide +kernel : bootBuiltins "super" = some (.type "super"))) ⟨rfl, ?_⟩)
  refine wpAny_loadName_free S.kind S.cls rfl ⟨_, X2 _ _ hcc, rfl⟩ ?_
  rw [earg]
  refine wpAny_loadName_local S.kind S.self hns hlk ?_
  refine ks_wpAny_isType_cls hD1 hD2 ⟨rfl, ?_⟩
  refine ks_wpAny_call_super (C := C) hD1 hD2 he2 rfl (fun c z => by cases z) (looks_mroIn X2 T.own) (fun h3 e3 k3 => ?_)
  have X3 : K.In h3 := X2.keeps k3
  have he3 := k3 _ _ he2
  have xC : h.objs.size + 1 ≠ C := Nat.ne_of_gt (Nat.lt_succ_of_lt (Heap.lt_size (show h.get? C = some _ from hC)))
  have I3 : InstAt h3 (h.objs.size + 1) (PX.excO C h.objs.size) C none := ⟨he3, rfl, rfl, trivial⟩
  have al : alongIn K "__init__" ((cd.mro.dropWhile (· != .ref C)).drop 1) = some (some (.builtin i)) := by
    have := q3
    unfold ks_superIn at this
    rw [hcl] at this
    exact this
  refine kxs_getMethod KF e3 (looks_opaque X3 T.opq) (l₀ := cd.mro) (fun A Q E s k q => wpAny_bind ((looks_clsIn X3 hcl) A _ E s k (wpAny_pure q))) rfl X3 al (I3.type.andThen (looks_subIn X3 q4)) xC (by decide) ?_
  have hu : (h3.push (kxs_mw i (h.objs.size + 1))).get? h3.objs.size = some (kxs_mw i (h.objs.size + 1)) := Heap.get?_push_size h3 rfl
  have k4 : ∀ b o, h3.get? b = some o → (h3.push (kxs_mw i (h.objs.size + 1))).get? b = some o := fun b o e => Heap.get?_push_of_some _ e
  have he4 := k4 _ _ he3
  have X4 := X3.keeps k4
  generalize (h3.push (kxs_mw i (h.objs.size + 1))) = h4 at hu k4 he4 X4
  refine kxs_callWith (i := i) (x := h.objs.size + 1) rfl (evalArgs_plain (Calls.spliced_cons (Calls.Constant_str (x := msg) (k := j) (pos := p3) (Calls.spliced_nil ⟨hu, ?_⟩))))
  obtain ⟨nm2, N2, qn2, bs2, bm2, hdc2, sn2, sub2, ab2, col2, dd2, k02, k12, k22, k32, k52, hC2, hT2⟩ := excInit_of X4 q1
  refine wpAny_call (codeAny_of_tree ?_)
  show wpAny _ _ (callAny (.ref h3.objs.size) ⟨[.str msg _], []⟩) _ _ _
  simp only [callAny]
  refine wpAny_bind (wpAny_load hu ?_)
  simp only [kxs_mw, show (Value.type "method-wrapper" == Value.type "method" || Value.type "method-wrapper" == Value.type "builtin_function_or_method" || Value.type "method-wrapper" == Value.type "method-wrapper") = true by decide, if_true]
  refine KFB.if_so (by decide) ?_
  refine wpAny_bind (check_bound_init FB.toExcCallFacts hC2 he4 rfl ?_)
  refine wpAny_bind (wpAny_pure (wpAny_pure ?_))
  refine ⟨plainId_quiet FB.init.plain _, codeAny_builtin FB.initEntry ?_⟩
  refine exc_init_tree (cls := .ref C) (t0 := h.objs.size) (dv := none) (c2 := .none) (c3 := .none) (b4 := .bool false) he4 (by show 1 ≤ sizeLine; decide) fun h5 k5 e5 t5 => ?_
  obtain ⟨oN, esN, epN, hoN, rN⟩ := hns
  have neN : h1.objs.size ≠ h.objs.size + 1 := Nat.ne_of_gt (Heap.lt_size hget)
  have hns5 : h5.Ns h1.objs.size (fun x => ([(("self" : Str), Value.ref (h.objs.size + 1)), (par, u)] : List (Str × Value)).reverse.lookup x) := ⟨oN, esN, epN, k5 _ _ neN (k4 _ _ (k3 _ _ hoN)), rN⟩
  have nold : ∀ b o, h.get? b = some o → b ≠ h.objs.size + 1 := fun b o e => Nat.ne_of_lt (Nat.lt_succ_of_lt (Heap.lt_size e))
  have kc : ∀ b o, h.get? b = some o → h5.get? b = some o := fun b o e => k5 _ _ (nold b o e) (k4 _ _ (k3 _ _ (ka b o e)))
  have X5 : K.In h5 := X.keeps kc
  refine ks_wpAt_execs_cons (ks_wpAt_Assign_Attr (wpAt_of_wpAny (wpAny_Name (wpAny_loadName_local S.kind S.lpar hns5 hlp ?_) S.dbg)) ?_)
  · refine wpAny_Name (wpAny_loadName_local S.kind S.self hns5 hlk ?_) (by decide)
    have I5 : InstAt h5 (h.objs.size + 1) (excObj C h4.objs.size none .none) C none := ⟨e5, rfl, rfl, trivial⟩
    refine set_plain X5 I5 T.sa ?_
    refine osa_openX SF X5 I5 q2 T.tk fun b => ?_
    have hcls : Looks (model P w) h5 (classData C) cd := looks_clsIn X5 hcl
    have hxs : h.objs.size + 1 ≠ h5.objs.size := Nat.ne_of_lt (Heap.lt_size e5)
    generalize cd = cd' at hcls hdct
    obtain ⟨nm', bs', mro', ns', qn', hd', sn', sb', ab', col', del'⟩ := cd'
    dsimp only at hdct
    subst hdct
    show wpAny _ _ (storeInOwnDict _ _ _ _ _ _) _ _ _
    unfold storeInOwnDict ownDictForStores
    repeat (first | with_reducible refine HandSPX.store_in_new ?_ ?_ | with_reducible refine wpAny_loadPart_at e5 ?_ | with_reducible refine hcls.at ?_ | wp_step)
    · exact ⟨_, #[], _, (Heap.get?_update_ne _ _ _ _ hxs.symm).trans (Heap.get?_push_at rfl rfl), rfl, fun e he => absurd he (by simp), fun _ => rfl⟩
    · intro h' tk' hn' hs
      have hx₁ : (h5.push { cls := .type "dict", data := .dict #[] }).get? (h.objs.size + 1) = some (excObj C h4.objs.size none .none) := Heap.get?_push_of_some _ e5
      refine wpAt_of_wpAny (wpAny_execs_nil ?_)
      have sz : ∀ b, h.objs.size ≤ b → b ≠ h.objs.size → True := fun _ _ _ => True.intro
      refine ⟨rfl, ?_⟩
      refine hq (h.objs.size + 1) h5.objs.size h' tk' h4.objs.size (Nat.le_succ _) ?_ hxs.symm (fun b o e => ?_) ?_ hn'
      · exact Nat.le_of_lt (Nat.lt_of_le_of_lt (Nat.le_succ _) (Heap.lt_size e5))
      · exact (hs.2 b (Nat.ne_of_lt (Heap.lt_size (kc b o e)))).trans ((Heap.get?_update_ne _ _ _ _ (nold b o e)).trans (Heap.get?_push_of_some _ (kc b o e)))
      · exact (hs.2 _ hxs).trans (Heap.get?_update_self _ hx₁ rfl)
  · first | rfl | (unfold swapsWith; rfl) | simp [swapsWith]
end
end TL
namespace TL
open PySem PySem.Calls PySem.Spec PyProof.Rows L2
section
variable {X : Cx} {C : Addr} {st : Stmt} {qual par fld x : Str} {e : Expr} {te : TE} {p pos : Pos}
/-- C(e) of an own exception class, to be raised -/
theorem pmk_exk {k : Nat} (T : ExK X.prog X.K C st qual fld) (S : InitIs st par fld) (htop : (X.prog.main.scope.names.lookup ("super" : Str)).isSome = false) (hr : Room (k + 1) X.A) (hg : Gl X x) (hm : X.mg x = some (.ref C)) (ha : PE X e te)
    (hdb : (x == ("__debug__" : Str)) = false := by decide) (he : starEach [e] X.env = (false, eval e X.env) :: starEach [] X.env := by rfl) (hpl : (backTo pos (starEach [] X.env)).any (·.1) = false := by rfl) :
    PMk X (.Call (.Name x p) [e] [] pos) (fun σ H Q => te σ H fun v H1 => ∀ d, H1 d = none → Q (.ref C) (some d) (upd H1 d (.xd [(fld, v)]))) := by
  intro pins s σ H Q I h
  refine wpAny_Call_Name_kw (ld_glob I hg hm ?_ hdb)
  refine PySem.W.callWith_K (h₀ := X.base) I.ok.mod.kin T.kep ?_ he hpl
  rw [he]
  show wpAny _ _ (spliced ((false, eval e X.env) :: backTo pos (starEach [] X.env))) _ _ s
  refine Calls.spliced_cons (thn (ha.run pins s σ H _ I h) fun u s1 ⟨v, H1, I1, r1, q1⟩ => ?_)
  refine Calls.spliced_nil ⟨I1.kIn, ?_⟩
  show wpAny _ _ (call (.ref C) [u]) _ _ _
  obtain ⟨hp, g, d, t, os⟩ := s1
  obtain ⟨mb, hb, hbb⟩ := I1.mod.blt
  refine exc_make T S I1.kIn (I1.mod.glob.keeps I1.bk) (hb.keeps I1.bk) hbb (I1.mod.nolimit.keeps I1.bk) (hr.make C [u] []).depth htop fun a dx h' t' t1 la ld nda kk ea hd => ?_
  have H1a : H1 a = none := I1.hok.fresh la
  have H1d : H1 dx = none := I1.hok.fresh ld
  obtain ⟨G, g1, g2⟩ := restrict h' fun b => decide (b ≠ a)
  have gk : ∀ b, b ≠ a → G.get? b = h'.get? b := fun b hb => g1 b (decide_eq_true hb)
  have ge : G.get? a = none := g2 a (by simp)
  have kG : ∀ b o, hp.get? b = some o → G.get? b = some o := fun b o z => (gk b (Nat.ne_of_lt (Nat.lt_of_lt_of_le (Heap.lt_size z) la))).trans (kk b o z)
  have J : Inv X pins σ (upd H1 dx (.xd [(fld, v)])) ⟨G, g, d, t', os⟩ := by
    refine I1.laid (t' := t') (a := dx) (o := .xd [(fld, v)]) (h' := G) kG ld ?_
    exact ⟨_, hd.at fun o y => (gk dx nda).trans y, fun f => by
      show RelO (match f == fld with | true => some v | false => none) _
      by_cases z : f = fld
      · subst z
        rw [beq_self_eq_true, if_pos rfl]; exact r1
      · rw [beq_eq_false_iff_ne.mpr z, if_neg z]; exact True.intro⟩
  refine ⟨a, _, _, ⟨G, g, d, t', os⟩, _, .ref C, some dx, rfl, J, fun b o z => ?_, ge, ea, ⟨rfl, rfl⟩, rfl, rfl, ?_, rfl, I1.bare, raises_own T.exc T.typ, q1 dx H1d⟩
  · by_cases hba : b = a
    · rw [hba, ge] at z; cases z
    · exact (gk b hba).symm.trans z
  · rw [upd_ne (Ne.symm nda)]; exact H1a
end
/-! ### raise, at the tree level -/
variable [Mach] [CN] [Xw]
def wsRaise (RE : XE) (c fld : Str) (f : WE) : WS := fun _ ts n => f ts n fun r n1 => RE ⟨c, [(fld, r)]⟩ n1
section
variable {X : Cx} {C : Addr} {st : Stmt} {qual par fld x : Str} {e : Expr} {f : WE} {p pos pos2 : Pos}
theorem qs_raise {k : Nat} (tk : Takes X Xw.W) (hc : X.calm = true) (T : ExK X.prog X.K C st qual fld) (hC : CN.at_ x = some C) (S : InitIs st par fld) (htop : (X.prog.main.scope.names.lookup ("super" : Str)).isSome = false) (hr : Room (k + 1) X.A) (hg : Gl X x) (hm : X.mg x = some (.ref C)) (ha : QE X e f)
    (hdb : (x == ("__debug__" : Str)) = false := by decide) (he : starEach [e] X.env = (false, eval e X.env) :: starEach [] X.env := by rfl) (hpl : (backTo pos (starEach [] X.env)).any (·.1) = false := by rfl) :
    QS X (.Raise (some (.Call (.Name x p) [e] [] pos)) none pos2) (wsRaise Xw.RE x fld f) :=
  PS.imp (ps_raise hc tk (pmk_exk T S htop hr hg hm ha hdb he hpl)) fun D σ H ⟨am, H0, Hs0, ts, n, W, s, h, k, kx⟩ =>
    tT_at kx s h fun r n' hr v Hs' H' x' b rv d hd => by
      have y := Ext.lay x'.spl hd (HO.xd [(fld, v)])
      refine kx ⟨x, [(fld, r)]⟩ n' (.ref C) (some d) _ _ hr (x'.trans y) ⟨C, d, [(fld, v)], hC, rfl, rfl, upd_same, ?_⟩
      simp only [RepF]
      exact ⟨v, [], rfl, Rep.mono y.same _ _ rv, rfl⟩
end
end TL
/-! try: several clauses, tuples of classes, the exception tracked in the suite -/
namespace TL
open PySem PySem.Spec PyProof.Rows L2
section
variable {M : Model} {h h' : Heap}
theorem flz_keeps {B : Heap} {l : List PySem.Env} {a : Addr} {Z : Obj → Prop} (f : HandSPX.FlyingZ B l a Z h) (k : ∀ b o, h.get? b = some o → h'.get? b = some o) : HandSPX.FlyingZ B l a Z h' := by
  obtain ⟨f1, f2, f3, oe, vs, T, oT, ts, e1, e2, e3, e4, e5, e6, e7, e8, e9⟩ := f
  exact ⟨fun b o e => k b o (f1 b o e), f2, Heap.FunFrames.of_keeps (fun b o e _ => ⟨o, k b o e, rfl⟩) f3, oe, vs, T, oT, ts, k _ _ e1, e2, e3, e4, e5, e6, k _ _ e7, e8, e9⟩
end
/-- what a clause's test does -/
def TestOk (X : Cx) (t : Expr) (cs : List Value) : Prop := ∀ (a : Addr) (pn pins : List (Addr × Obj)) (σ : L2.St) (H : Hp) (s : Shared) (cls : Value) (b : Bool) (Q : Value → Shared → Prop) (E : Value → Shared → Prop),
  Inv (X.suite a pn) pins σ H s → PySem.W.Looks (model X.prog X.w) s.heap (typeOf (.ref a)) cls → PySem.W.exmAny X.K cls cs = some b →
  (∀ c s1, (∀ b o, s.heap.get? b = some o → s1.heap.get? b = some o) → s1.gens = s.gens → s1.os = s.os → PySem.W.Looks (model X.prog X.w) s1.heap (excMatches (.ref a) c) b → Q c s1) →
  wpAny (model X.prog X.w) (X.A.mark (some (.ref a))) (eval t X.env) Q E s
theorem ld_names {X : Cx} {x : Str} {c : Value} {a : Addr} {pn pins : List (Addr × Obj)} {σ : L2.St} {H : Hp} {s : Shared} {np : Pos} {Q : Value → Shared → Prop} {E : Value → Shared → Prop} (hc : Names X x c) (S : Inv (X.suite a pn) pins σ H s) (q : Q c s) :
    wpAny (model X.prog X.w) (X.A.mark (some (.ref a))) (eval (.Name x np) X.env) Q E s := by
  obtain ⟨hg, hdbg, hm | ⟨hm, hv, hnn⟩⟩ := hc
  · exact ld_glob (X := X.suite a pn) S hg hm q hdbg
  · exact ld_blt (X := X.suite a pn) S hg hm hv q hnn hdbg
theorem test_one {X : Cx} {x : Str} {c : Value} {np : Pos} (hc : Names X x c) : TestOk X (.Name x np) [c] := fun a pn pins σ H s cls b Q E S LT hb k => by
  obtain ⟨b1, d1, h1, h2, h3⟩ := PySem.W.exmAny_cons hb
  cases h2
  rw [Bool.or_false] at h3
  subst h3
  exact ld_names hc S (k c s (fun _ _ e => e) rfl rfl (PySem.W.exm_one S.kIn LT h1))
section
variable {X : Cx} {a : Addr} {pn pins : List (Addr × Obj)} {σ : L2.St} {H : Hp} {s : Shared} {E : Value → Shared → Prop}
/-- names, one behind the other -/
theorem ld_spliced {es : List Expr} {cs : List Value} (S : Inv (X.suite a pn) pins σ H s) : ∀ (l : List (Str × Value × Pos)), (∀ q ∈ l, Names X q.1 q.2.1) → ∀ {Q : List Value → Shared → Prop}, Q (l.map (·.2.1)) s →
    wpAny (model X.prog X.w) (X.A.mark (some (.ref a))) (spliced (l.map fun q => (false, eval (.Name q.1 q.2.2) X.env))) Q E s
  | [], _, Q, q => Calls.spliced_nil q
  | p :: l, hl, Q, q => Calls.spliced_cons (ld_names (hl p (List.mem_cons_self ..)) S (wpAny_mono (ld_spliced (es := es) (cs := cs) S l (fun r hr => hl r (List.mem_cons_of_mem _ hr)) (Q := fun vs s' => vs = l.map (·.2.1) ∧ s' = s) ⟨rfl, rfl⟩) (fun vs s' ⟨e1, e2⟩ => by subst e1; subst e2; exact q) fun _ _ e => e))
end
theorem test_tup {X : Cx} {es : List Expr} {x1} {pos : Pos} (l : List (Str × Value × Pos)) (hl : ∀ q ∈ l, Names X q.1 q.2.1) (h4 : l.length = 2 ∨ l.length = 3 ∨ l.length = 4) (he : backTo pos (starEach es X.env) = l.map fun q => (false, eval (.Name q.1 q.2.2) X.env)) :
    TestOk X (.Tuple es x1 pos) (l.map (·.2.1)) := fun a pn pins σ H s cls b Q E S LT hb k => by
  refine wpAny_Tuple_spliced ?_
  rw [he]
  have hs : (l.map (·.2.1)).length ≤ sizeLine := by
    rw [List.length_map]
    exact Nat.le_trans (show l.length ≤ 4 by omega) (by decide)
  refine ld_spliced (es := es) (cs := []) S l hl ⟨hs, ?_⟩
  have kp : ∀ b o, s.heap.get? b = some o → (s.heap.push { cls := .type "tuple", data := .seq (l.map (·.2.1)).toArray }).get? b = some o := fun b o e => Heap.get?_push_of_some _ e
  refine k _ _ kp rfl rfl ?_
  have X2 := S.kIn.keeps kp
  have LT2 := LT.keeps kp
  have hp : (s.heap.push { cls := .type "tuple", data := .seq (l.map (·.2.1)).toArray }).get? s.heap.objs.size = some { cls := .type "tuple", data := .seq (l.map (·.2.1)).toArray } := Heap.get?_push_size s.heap rfl
  clear k
  generalize hh : (s.heap.push { cls := .type "tuple", data := .seq (l.map (·.2.1)).toArray }) = h2 at hp X2 LT2
  show PySem.W.Looks _ h2 _ _
  rcases h4 with h | h | h
  · match l, h, hp, hb with
    | [p, q], _, hp, hb => exact PySem.W.exm_tup2 X2 LT2 hp hb
  · match l, h, hp, hb with
    | [p, q, r], _, hp, hb => exact PySem.W.exm_tup3 X2 LT2 hp hb
  · match l, h, hp, hb with
    | [p, q, r, t], _, hp, hb => exact PySem.W.exm_tup4 X2 LT2 hp hb
theorem hok_track {P : Program} {w : World} {H : Hp} {h : Heap} {a : Addr} {o : HO} (x : HOk P w H h) (hn : H a = none) (new : ObjOk P w (upd H a o) h a o) : HOk P w (upd H a o) h := fun b u e => by
  by_cases hb : b = a
  · subst hb
    rw [upd_same] at e
    cases e
    exact new
  · rw [upd_ne hb] at e
    exact (x b u e).stay (fun c v _ q => q) (fun c q => by rw [upd_ne (ne_of_none q hn)]; exact q) fun c xs q => by rw [upd_ne (ne_of_none q hn)]; exact q
/-- a clause -/
structure Clause where
  cs : List Value
  nm : Option Nat
  ts : Addr → TS
def endsAs (o : Option Nat) (D : Ends) : Ends := match o with
  | none => D
  | some i => { nx := fun σ H => D.nx (σ.set i none) H, rt := D.rt, bk := fun σ H => D.bk (σ.set i none) H, ct := fun σ H => D.ct (σ.set i none) H }
def setAs (o : Option Nat) (a : Addr) (σ : L2.St) : L2.St := match o with
  | none => σ
  | some i => σ.set i (some (.ref a))
def wCl (K : PySem.W.Frag) (Wout : WX) (D : Ends) : List Clause → WX
  | [] => Wout
  | c :: r => fun cls d σ H => ∃ b, PySem.W.exmAny K cls c.cs = some b ∧ (b = true → ∃ C dd, cls = .ref C ∧ d = some dd ∧ ∀ a, H a = none → c.ts a (endsAs c.nm D) (setAs c.nm a σ) (upd H a (xob a C dd))) ∧ (b = false → wCl K Wout D r cls d σ H)
def NmOk (X : Cx) (n : Option Str) (i : Option Nat) : Prop := match n, i with
  | none, none => True
  | some n, some i => X.N[i]? = some n ∧ X.env.kindOf n = some .local
  | _, _ => False
inductive ClsOk (X : Cx) : List ExceptHandler → List Clause → Prop
  | nil : ClsOk X [] []
  | cons {t : Expr} {n : Option Str} {c : Clause} {b₀ : Stmt} {suite : List Stmt} {pos' : Pos} {hds : List ExceptHandler} {l : List Clause} (ht : TestOk X t c.cs) (hn : NmOk X n c.nm)
      (hsu : ∀ (a : Addr) (pn : List (Addr × Obj)), PSs (X.suite a pn) (b₀ :: suite) (c.ts a)) (r : ClsOk X hds l) : ClsOk X (.ExceptHandler (some t) n (b₀ :: suite) pos' :: hds) (c :: l)
section
variable {X : Cx} {pins : List (Addr × Obj)} {σ : L2.St} {H : Hp} {s : Shared}
theorem inv_suiteT (I : Inv X pins σ H s) {a : Addr} {o : HO} (na : H a = none) (n0 : X.s_0.heap.get? a = none) (nL : a ≠ X.env.locals) (nc : ∀ x c, X.env.cells.lookup x = some c → c ≠ a) (np : ∀ p ∈ X.pn ++ pins, p.1 ≠ a)
    (new : ObjOk X.prog X.w (upd H a o) s.heap a o) : Inv (X.suite a (X.pn ++ pins)) [] σ (upd H a o) s := by
  have ne : ∀ {b : Addr} {u : Obj}, X.s_0.heap.get? b = some u → b ≠ a := fun {b u} e z => by rw [z, n0] at e; cases e
  refine ⟨I.ok.suite _ _, I.os, I.bare, ⟨I.base.keep, I.base.slot, fun b u e n hx => ?_, I.base.there, fun b xs e => ?_, fun b u xs e => ?_, fun b ps e => ?_⟩, I.loc, I.cell, ?_, fun x c e => ?_, fun p hp => ?_, ?_, I.len⟩
  · rw [upd_ne (ne e)]; exact I.base.free b u e n hx
  · have q := I.base.tups b xs e
    rw [upd_ne (ne_of_none q na)]; exact q
  · have q := I.base.frzs b u xs e
    rw [upd_ne (ne_of_none q na)]; exact q
  · obtain ⟨m, q⟩ := I.base.tbls b ps e
    exact ⟨m, by rw [upd_ne (ne_of_none q na)]; exact q⟩
  · show upd H a o X.env.locals = none
    rw [upd_ne (Ne.symm nL)]; exact I.free
  · rw [upd_ne (nc x c e)]; exact I.freeC x c e
  · have hp' : p ∈ X.pn ++ pins := by rw [List.append_nil] at hp; exact hp
    obtain ⟨q1, q2, q3, q4, q5⟩ := I.pin p hp'
    exact ⟨q1, by rw [upd_ne (np p hp')]; exact q2, q3, q4, q5⟩
  · exact hok_track I.hok na new
theorem inv_unsuiteT {a : Addr} {pn' : List (Addr × Obj)} (I : Inv (X.suite a (X.pn ++ pins)) pn' σ H s) (ok : X.Ok) : Inv X pins σ H s :=
  ⟨ok, I.os, I.bare, I.base, I.loc, I.cell, I.free, I.freeC, fun p hp => I.pin p (List.mem_append_left _ hp), I.hok, I.len⟩
theorem xob_ok {P : Program} {w : World} {a C dd : Addr} {oe : Obj} {vs : Array Value} {h : Heap} (e : h.get? a = some oe) (z : Zc (.ref C) (some dd) oe) (d : oe.data = .fields vs) : ObjOk P w H h a (xob a C dd) :=
  ⟨⟨oe, vs, e, z, d⟩, ⟨oe, e⟩, fun _ _ ⟨o, v, q, r⟩ k => ⟨o, v, k o q, r⟩⟩
end
section
variable {X : Cx} {body : List Stmt} {h₀ : ExceptHandler} {hds : List ExceptHandler} {l : List Clause} {pos : Pos} {tb : WX → TS} {Wout : WX}
theorem ps_tryL (hs : X.stack = X.env :: X.outer) (hf : X.env.frame = some X.env.locals) (hex : X.ex = []) (hN : X.N.Nodup) (tk : Takes X Wout)
    (hb : ∀ (W : WX) (pn : List (Addr × Obj)) (xe : Value → Shared → Prop), Takes (X.tr pn xe) W → PassesOwn (model X.prog X.w) X.A X.env xe → PSs (X.tr pn xe) body (tb W))
    (hh : ClsOk X (h₀ :: hds) l) : PS X (.Try body (h₀ :: hds) [] [] pos) (fun D σ H => tb (wCl X.K Wout D l) D σ H) := by
  refine ⟨fun pins s σ H D I h => ?_⟩
  have ok := I.ok
  have hfr : X.A.frames = some (X.env :: X.outer) := by rw [ok.frames, hs]
  refine wpAny_Try_except ?_
  refine wpAny_mono ((hb (wCl X.K Wout D l) (X.pn ++ pins) (fun e s₁ => wpAny (model X.prog X.w) X.A (noteFrame e X.env) (fun _ s₂ => wpAny (model X.prog X.w) X.A (setFlight e none) (fun _ s₃ =>
    wpAny (model X.prog X.w) X.A (handleBy e X.env (h₀ :: hds)) (SP X pins D) X.xe s₃) X.xe s₂) X.xe s₁) (fun u s' xx => ?_) PassesOwn.looking).run [] s σ H D (I.toTry _) h) (fun f s1 hsp => ?_) (fun e s1 he => he)
  · -- the catch
    obtain ⟨a, B, sI, pins', σ', H', cls, d, rfl, J', nb, up, sky, na, os, ag, w⟩ := xx
    have J : Inv X pins σ' H' sI := J'.ofTry ok
    have sky' : Sky B (X.env :: X.outer) a (Zc cls d) X.env.locals s'.heap := by rw [← hs]; exact sky
    show wpAny (model X.prog X.w) X.A (noteFrame (.ref a) X.env) _ _ _
    refine Sky.land Zc.steady hfr hf sky' fun h3 fl3 up3 => ?_
    have notFr : ∀ {h : Heap} {o : Obj} {vs : Array Value}, h.FunFrames B (X.env :: X.outer) → h.get? a = some o → o.data = .fields vs → a ∉ frs (X.env :: X.outer) := fun {h o vs} ff e dd hm => by
      obtain ⟨_, o', e', hnf⟩ := ff.mem hm
      rw [e] at e'; cases e'
      exact hnf _ dd
    have nfr : a ∉ frs (X.env :: X.outer) := by
      obtain ⟨oe3, vs3, he3, hz3, hd3⟩ := fl3.there
      exact notFr fl3.2.2.1 he3 hd3
    have nL : a ≠ X.env.locals := fun z => nfr (List.mem_filterMap.mpr ⟨X.env, List.mem_cons_self, by rw [hf, z]⟩)
    have nF : a ∉ X.fs := fun hm => by
      obtain ⟨e, he, q⟩ := List.mem_filterMap.mp hm
      exact nfr (List.mem_filterMap.mpr ⟨e, List.mem_cons_of_mem _ he, q⟩)
    have nI : sI.heap.get? a = none := by
      cases q : sI.heap.get? a with
      | none => rfl
      | some o =>
        have := nb a o q (by rw [hs]; exact nfr)
        rw [fl3.2.1] at this; cases this
    have n0 : X.s_0.heap.get? a = none := by
      cases q : X.s_0.heap.get? a with
      | none => rfl
      | some o =>
        obtain ⟨o', q'⟩ := J.base.there a o q (by rw [hex]; exact fun z => nomatch z)
        rw [nI] at q'; cases q'
    have npin : ∀ p ∈ X.pn ++ pins, p.1 ≠ a := fun p hp z => by
      have := (J.pin p hp).1
      rw [z, nI] at this; cases this
    have go : ∀ {hds' : List ExceptHandler} {l' : List Clause}, ClsOk X hds' l' → ∀ s3 : Shared, HandSPX.FlyingZ B (X.env :: X.outer) a (Zc cls d) s3.heap → s'.heap.UpToSlots s3.heap → s3.os = s'.os → s3.gens = s'.gens → wCl X.K Wout D l' cls d σ' H' →
        wpAny (model X.prog X.w) X.A (handleBy (.ref a) X.env hds') (SP X pins D) X.xe s3 := by
      intro hds' l' hk
      induction hk with
      | nil =>
        intro s3 fl u3 o3 g3 w
        refine wpAny_handleBy_nil ?_
        obtain ⟨k1, k2, k3, oe, vs, T, oT, ts', he, hz, hd, h1, hr⟩ := id fl
        unfold PySem.passOn
        refine wpAny_bind (wpAny_field he hd h1 ?_)
        rw [if_neg (show ¬ ((Value.ref T == Value.none) = true) from by simp)]
        have fin : wpAny (model X.prog X.w) X.A (setFlight (.ref a) X.env.frame) (fun _ s4 => wpAny (model X.prog X.w) X.A (throw (.ref a) : Sem Flow) (SP X pins D) X.xe s4) X.xe s3 := by
          rw [hf]
          refine HandSPX.setFlight_upZ fl fun h4 hh4 up4 => wpAny_throw (tk _ _ ?_)
          exact ⟨a, B, sI, pins, σ', H', cls, d, rfl, J, nb, (up.trans u3).trans up4, .inr (.inr (by rw [hs]; exact hh4)), na, o3.trans os, by rw [g3]; exact ag, w⟩
        first
          | exact wpAny_bind (wpAny_pure (wpAny_bind fin))
          | exact wpAny_bind fin
      | @cons t n c b₀ suite pos' hds2 l2 ht hn hsu r ih =>
        intro s3 fl u3 o3 g3 w
        obtain ⟨b, hb1, hyes, hno⟩ := w
        obtain ⟨oe3, vs3, he3, hz3, hd3⟩ := fl.there
        have J3 : Inv X pins σ' H' s3 := J.landed nb fl.1 (up.trans u3) (o3.trans os) (by rw [g3]; exact ag)
        have S3 := J3.suite he3 hd3 na nL nF
        refine wpAny_handleBy_cons (codeAny_handlers_test ?_) (by intro q; cases q)
        have LT : PySem.W.Looks (model X.prog X.w) s3.heap (typeOf (.ref a)) cls := fun A Q E s k q => wpAny_typeOf_ref (k _ _ he3) (by rw [hz3.1]; exact q)
        refine ht a _ _ _ _ s3 cls b _ _ S3 LT hb1 fun c1 s4 k4 g4 o4 LM => LM.here ?_
        have fl4 := flz_keeps fl k4
        have u4 := u3.trans (Heap.UpToSlots.of_keeps k4)
        cases b with
        | true =>
          obtain ⟨C, dd, rfl, rfl, hy⟩ := hyes rfl
          have q0 := hy a na
          have suite_ : ∀ s5 : Shared, HandSPX.FlyingZ B (X.env :: X.outer) a (Zc (.ref C) (some dd)) s5.heap → s'.heap.UpToSlots s5.heap → s5.os = s'.os → s5.gens = s'.gens → Inv (X.suite a (X.pn ++ pins)) [] σ' (upd H' a (xob a C dd)) s5 := fun s5 f5 u5 o5 g5 => by
            have J5 : Inv X pins σ' H' s5 := J.landed nb f5.1 (up.trans u5) (o5.trans os) (by rw [g5]; exact ag)
            obtain ⟨oe5, vs5, he5, hz5, hd5⟩ := f5.there
            refine inv_suiteT J5 na n0 nL (fun x c e z => ?_) npin (xob_ok he5 hz5 hd5)
            obtain ⟨v, o, ho, hc⟩ := J5.cell x c e
            rw [z, he5] at ho; cases ho
            rw [hd5] at hc; cases hc
          cases n with
          | none =>
            have en : c.nm = none := by
              unfold NmOk at hn
              cases z : c.nm with
              | none => rfl
              | some i => rw [z] at hn; exact hn.elim
            rw [en] at q0
            refine codeAny_handlers_suite ?_
            refine HandSPX.lands_againZ fl4 fun h5 fl5 up5 => ?_
            refine wpAny_mono ((hsu a (X.pn ++ pins)).run [] _ σ' _ _ (suite_ _ fl5 (u4.trans up5) (o4.trans o3) (g4.trans g3)) q0) (fun f s6 hsp => ?_) (fun _ _ z => False.elim z)
            cases f with
            | next =>
              obtain ⟨σ6, H6, S6, q6⟩ := hsp
              exact ⟨_, _, inv_unsuiteT S6 ok, q6⟩
            | brk =>
              obtain ⟨σ6, H6, S6, q6⟩ := hsp
              exact ⟨_, _, inv_unsuiteT S6 ok, q6⟩
            | cont =>
              obtain ⟨σ6, H6, S6, q6⟩ := hsp
              exact ⟨_, _, inv_unsuiteT S6 ok, q6⟩
            | ret u =>
              obtain ⟨v6, σ6, H6, S6, r6, q6⟩ := hsp
              exact ⟨_, _, _, inv_unsuiteT S6 ok, r6, q6⟩
          | some n =>
            obtain ⟨i, en, hi, hln⟩ : ∃ i, c.nm = some i ∧ X.N[i]? = some n ∧ X.env.kindOf n = some .local := by
              unfold NmOk at hn
              cases z : c.nm with
              | none => rw [z] at hn; exact hn.elim
              | some i => rw [z] at hn; exact ⟨i, rfl, hn.1, hn.2⟩
            rw [en] at q0
            refine codeAny_handlers_suite_as ?_
            refine HandSPX.lands_againZ fl4 fun h5 fl5 up5 => ?_
            refine store_ok (X := X.suite a (X.pn ++ pins)) (v := .ref a) (suite_ _ fl5 (u4.trans up5) (o4.trans o3) (g4.trans g3)) hN hi (.inl hln) rfl (fun s5 S5 => ?_) (.inr hln)
            refine wpAny_mono ((hsu a (X.pn ++ pins)).run [] s5 _ _ _ S5 q0) (fun f s6 hsp => ?_) (fun _ _ z => False.elim z)
            have end_ : ∀ {σ6 : L2.St} {H6 : Hp} {Q : Shared → Prop}, Inv (X.suite a (X.pn ++ pins)) [] σ6 H6 s6 → (∀ s7, Inv X pins (σ6.set i none) H6 s7 → Q s7) →
                wpAny (model X.prog X.w) X.A (do bindName X.env n .none; unbindBehindTheSuite X.env n pos') (fun _ s7 => Q s7) X.xe s6 := fun {σ6 H6 Q} S6 hq => gone_ok (inv_unsuiteT S6 ok) hN hi hln hq
            cases f with
            | next =>
              obtain ⟨σ6, H6, S6, q6⟩ := hsp
              exact end_ S6 fun s7 J7 => ⟨_, _, J7, q6⟩
            | brk =>
              obtain ⟨σ6, H6, S6, q6⟩ := hsp
              exact end_ S6 fun s7 J7 => ⟨_, _, J7, q6⟩
            | cont =>
              obtain ⟨σ6, H6, S6, q6⟩ := hsp
              exact end_ S6 fun s7 J7 => ⟨_, _, J7, q6⟩
            | ret u =>
              obtain ⟨v6, σ6, H6, S6, r6, q6⟩ := hsp
              exact end_ S6 fun s7 J7 => ⟨_, _, _, J7, r6, q6⟩
        | false =>
          show wpAny _ X.A (handleBy (.ref a) X.env hds2) _ _ _
          exact ih s4 fl4 u4 (o4.trans o3) (g4.trans g3) (hno rfl)
    exact go hh _ fl3 up3 rfl rfl w
  · cases f with
    | next =>
      obtain ⟨σ', H', J', q⟩ := hsp
      exact wpAny_execs_nil ⟨σ', H', J'.ofTry ok, q⟩
    | brk =>
      obtain ⟨σ', H', J', q⟩ := hsp
      exact ⟨σ', H', J'.ofTry ok, q⟩
    | cont =>
      obtain ⟨σ', H', J', q⟩ := hsp
      exact ⟨σ', H', J'.ofTry ok, q⟩
    | ret u =>
      obtain ⟨v, σ', H', J', r, q⟩ := hsp
      exact ⟨v, σ', H', J'.ofTry ok, r, q⟩
end
end TL
/-! try, at the tree level -/
namespace TL
open PySem PySem.Spec PyProof.Rows L2
structure TCl where
  cs : List Str
  nm : Option Nat
  ws : WS
/-- the program's own classes: their families, their instances' fields, which are exceptions -/
class XCl where
  fam : Str → Option (List Str)
  flds : Str → List Str
  exc : Str → Bool
  asked : List Str
  tys : List String
def endsT (o : Option Nat) (W : WEnds) : WEnds := match o with
  | none => W
  | some i => { nx := fun ts n => W.nx (ts.set i .no) n, rt := W.rt, bk := fun ts n => W.bk (ts.set i .no) n, ct := fun ts n => W.ct (ts.set i .no) n }
def setX (o : Option Nat) (x : Exn) (ts : Env) : Env := match o with
  | none => ts
  | some i => ts.set i (.tr (.exc x.cls x.fs))
def hW [XCl] (RE : XE) (W : WEnds) (ts : Env) : List TCl → XE
  | [], x, n => RE x n
  | c :: r, x, n => match XCl.fam x.cls with
    | none => False
    | some f => if c.cs.any (f.contains ·) = true then c.ws (endsT c.nm W) (setX c.nm x ts) n else hW RE W ts r x n
variable [Mach] [CN]
theorem RepB.setNo {K : PySem.W.Frag} {am : Option Addr} {Hb Hs H : Hp} {σ : L2.St} {ts : Env} (h : RepB K am Hb Hs H σ ts) (i : Nat) : RepB K am Hb Hs H (σ.set i none) (ts.set i .no) := by
  have sp : ∀ (j : Nat) (t : T), (ts.set i .no)[j]? = some (.own t) → j ≠ i ∧ ts[j]? = some (.own t) := fun j t e => by
    by_cases q : i = j
    · subst q
      by_cases hl : i < ts.length
      · rw [List.getElem?_set_self hl] at e; cases e
      · rw [List.getElem?_eq_none (by simp; omega)] at e; cases e
    · rw [List.getElem?_set_ne q] at e
      exact ⟨fun z => q z.symm, e⟩
  refine ⟨⟨by simp [h.re.len], fun j s e => ?_, fun a b t u l hab e1 e2 e3 e4 => ?_⟩, fun j t l e1 e2 => ?_⟩
  · by_cases q : i = j
    · subst q
      by_cases hl : i < ts.length
      · rw [List.getElem?_set_self hl] at e
        cases e
        trivial
      · rw [List.getElem?_eq_none (by simp; omega)] at e; cases e
    · rw [List.getElem?_set_ne q] at e ⊢
      exact h.re.at_ j s e
  · obtain ⟨n1, f1⟩ := sp a t e1
    obtain ⟨n2, f2⟩ := sp b u e2
    rw [List.getElem?_set_ne (Ne.symm n1)] at e3
    rw [List.getElem?_set_ne (Ne.symm n2)] at e4
    exact h.re.dis a b t u l hab f1 f2 e3 e4
  · obtain ⟨n1, f1⟩ := sp j t e1
    rw [List.getElem?_set_ne (Ne.symm n1)] at e2
    exact h.nw j t l f1 e2
theorem SEnds.as {K : PySem.W.Frag} {am : Option Addr} {H0 Hs0 : Hp} {W : WEnds} {D : Ends} (k : SEnds K am H0 Hs0 W D) (o : Option Nat) : SEnds K am H0 Hs0 (endsT o W) (endsAs o D) := by
  cases o with
  | none => exact k
  | some i => exact ⟨fun σ H ts n ⟨Hs, x, b⟩ h => k.nx _ H _ n ⟨Hs, x, b.setNo i⟩ h, k.rt, fun σ H ts n ⟨Hs, x, b⟩ h => k.bk _ H _ n ⟨Hs, x, b.setNo i⟩ h, fun σ H ts n ⟨Hs, x, b⟩ h => k.ct _ H _ n ⟨Hs, x, b.setNo i⟩ h⟩
inductive TClsOk (X : Cx) [XCl] : List ExceptHandler → List TCl → Prop
  | nil : TClsOk X [] []
  | cons {t : Expr} {n : Option Str} {c : TCl} {vs : List Value} {b₀ : Stmt} {suite : List Stmt} {pos' : Pos} {hds : List ExceptHandler} {l : List TCl} (ht : TestOk X t vs)
      (hv : ∀ cls f, XCl.fam cls = some f → ∃ C, CN.at_ cls = some C ∧ PySem.W.exmAny X.K (.ref C) vs = some (c.cs.any (f.contains ·))) (hn : NmOk X n c.nm)
      (hsu : ∀ (a : Addr) (pn : List (Addr × Obj)), @QSs _ _ Xw.no (X.suite a pn) (b₀ :: suite) c.ws) (r : TClsOk X hds l) : TClsOk X (.ExceptHandler (some t) n (b₀ :: suite) pos' :: hds) (c :: l)
theorem tcls_ok [XCl] {X : Cx} {hds : List ExceptHandler} {l : List TCl} (h : TClsOk X hds l) : ∃ l', ClsOk X hds l' ∧
    ∀ (D : Ends) (Wout : WX) (RE : XE) (am : Option Addr) (H0 Hs0 : Hp) (σ : L2.St) (ts : Env) (W : WEnds) (x : Exn) (n' : Nat) (cls : Value) (d : Option Addr) (Hs' H' : Hp), SEnds X.K am H0 Hs0 W D → Ext am Hs0 H0 Hs' H' n' → RepB X.K am H0 Hs' H' σ ts →
      RepX X.K am Hs' x cls d → hW RE W ts l x n' → (RE x n' → Wout cls d σ H') → wCl X.K Wout D l' cls d σ H' := by
  letI : Xw := Xw.no
  induction h with
  | nil => exact ⟨[], .nil, fun D Wout RE am H0 Hs0 σ ts W x n' cls d Hs' H' k y b q hx ho => ho hx⟩
  | @cons t n c vs b₀ suite pos' hds l ht hv hn hsu r ih =>
    obtain ⟨l', hl, ih⟩ := ih
    refine ⟨⟨vs, c.nm, fun a => @sT _ _ Xw.no X.K c.ws⟩ :: l', .cons ht hn hsu hl, fun D Wout RE am H0 Hs0 σ ts W x n' cls d Hs' H' k y b q hx ho => ?_⟩
    unfold hW at hx
    split at hx
    · exact hx.elim
    · rename_i f hf
      obtain ⟨C', hC', he⟩ := hv x.cls f hf
      have q' := q
      obtain ⟨C, dd, fvs, q1, q2, q3, q4, q5⟩ := q
      rw [hC'] at q1
      cases q1
      subst q2 q3
      refine ⟨_, he, fun hb => ⟨C', dd, rfl, rfl, fun a na => ?_⟩, fun hb => ?_⟩
      · rw [if_pos hb] at hx
        have e := Ext.lay y.spl na (xob a C' dd)
        have rx : Rep X.K am (upd Hs' a (xob a C' dd)) (.exc x.cls x.fs) (.ref a) := by
          simp only [Rep]
          exact ⟨a, C', dd, fvs, rfl, hC', upd_same, e.same _ _ q4, RepF.mono e.same _ _ q5⟩
        have b2 := b.ext e
        refine @Exists.intro _ _ am ⟨H0, Hs0, setX c.nm x ts, n', endsT c.nm W, ⟨upd Hs' a (xob a C' dd), y.trans e, ?_⟩, hx, k.as c.nm, fun _ _ _ _ _ _ z => z.elim⟩
        cases hc : c.nm with
        | none => exact b2
        | some i => exact b2.set i rx
      · rw [if_neg (by rw [hb]; decide)] at hx
        exact ih D Wout RE am H0 Hs0 σ ts W x n' _ _ Hs' H' k y b q' hx ho
theorem PSs.ex {ι : Type} {X : Cx} {ss : List Stmt} {t : ι → TS} (h : ∀ i, PSs X ss (t i)) : PSs X ss (fun D σ H => ∃ i, t i D σ H) := ⟨fun pins s σ H D I ⟨i, q⟩ => (h i).run pins s σ H D I q⟩
variable [Xw]
def wsTry [XCl] (RE : XE) (w : XE → WS) (hs : List TCl) : WS := fun W ts n => w (hW RE W (ts.map Sl.see) hs) W (ts.map Sl.see) n
section
variable {X : Cx} {body : List Stmt} {h₀ : ExceptHandler} {hds : List ExceptHandler} {l : List TCl} {pos : Pos} {w : XE → WS}
theorem qs_try [XCl] (tk : Takes X Xw.W) (hN : X.N.Nodup) (hs : X.stack = X.env :: X.outer := by rfl) (hf : X.env.frame = some X.env.locals := by rfl) (hex : X.ex = [] := by rfl)
    (hb : ∀ (W : WX) (pn : List (Addr × Obj)) (xe : Value → Shared → Prop) (RE : XE), Takes (X.tr pn xe) W → Owns (X.tr pn xe) → @QSs _ _ ⟨W, RE⟩ (X.tr pn xe) body (w RE))
    (hh : TClsOk X (h₀ :: hds) l) : QS X (.Try body (h₀ :: hds) [] [] pos) (wsTry Xw.RE w l) := by
  obtain ⟨l', hl, rd⟩ := tcls_ok hh
  refine PS.imp (ps_tryL (tb := fun W D σ H => ∃ RE, @sT _ _ ⟨W, RE⟩ X.K (w RE) D σ H) hs hf hex hN tk (fun W pn xe tk' po => PSs.ex fun RE => hb W pn xe RE tk' po) hl) fun D σ H ⟨am, H0, Hs0, ts, n, W, s, h, k, kx⟩ => ?_
  obtain ⟨Hx, x, b⟩ := s.frz
  have ex : ∀ {Hs' H' : Hp} {n' : Nat}, Ext am Hx H Hs' H' n' → Ext am Hs0 H0 Hs' H' n' := fun y => x.trans y
  have no : ∀ (i : Nat) (t : T), (ts.map Sl.see)[i]? ≠ some (.own t) := fun i t e => by
    rw [List.getElem?_map] at e
    cases q : ts[i]? with
    | none => rw [q] at e; cases e
    | some s => rw [q] at e; cases s <;> cases e
  have b1 : RepB X.K am H Hx H σ (ts.map Sl.see) := ⟨b.re, fun i t l e => (no i t e).elim⟩
  have kk : SEnds X.K am H Hx W D := ⟨fun σ' H' ts' n' ⟨Hs', y, b'⟩ hn => k.nx σ' H' ts' n' ⟨Hs', ex y, ⟨b'.re, fun i t l e1 e2 => x.keep.dom l (b'.nw i t l e1 e2)⟩⟩ hn, fun v H' Hs' r n' y rv hr => k.rt v H' Hs' r n' (ex y) rv hr,
    fun σ' H' ts' n' ⟨Hs', y, b'⟩ hn => k.bk σ' H' ts' n' ⟨Hs', ex y, ⟨b'.re, fun i t l e1 e2 => x.keep.dom l (b'.nw i t l e1 e2)⟩⟩ hn, fun σ' H' ts' n' ⟨Hs', y, b'⟩ hn => k.ct σ' H' ts' n' ⟨Hs', ex y, ⟨b'.re, fun i t l e1 e2 => x.keep.dom l (b'.nw i t l e1 e2)⟩⟩ hn⟩
  exact ⟨hW Xw.RE W (ts.map Sl.see) l, am, H, Hx, ts.map Sl.see, n, W, ⟨Hx, Ext.refl x.spl, b1⟩, h, kk, fun e n' cls d Hs' H' r y q => rd D Xw.W Xw.RE am H Hx σ (ts.map Sl.see) W e n' cls d Hs' H' kk y (b1.ext y) q r fun r' => kx e n' cls d Hs' H' r' (ex y) q⟩
/-- a statement that may raise, ahead of others that may not -/
theorem qss_consN {st : Stmt} {rest : List Stmt} {a b : WS} (h1 : QS X st a) (h2 : @QSs _ _ Xw.no X rest b) : QSs X (st :: rest) (wsSeq a b) := PSs.imp (pss_cons h1 h2) fun D σ H ⟨am, H0, Hs0, ts, n, W, s, h, k, kx⟩ =>
  ⟨am, H0, Hs0, ts, n, { W with nx := b W }, s, h, ⟨fun σ' H' ts' n' s' h' => ⟨am, H0, Hs0, ts', n', W, s', h', k, fun _ _ _ _ _ _ z => z.elim⟩, k.rt, k.bk, k.ct⟩, kx⟩
def wsIfR (t : WT) (a b : WS) : WS := fun W ts n => t ts n fun c n1 => if c = true then a { W with nx := fun _ _ => False } ts n1 else b W ts n1
/-- if: a suite that is left, ahead of others -/
theorem qss_ifR {c : Expr} {t : WT} {as rest : List Stmt} {a b : WS} (hc : QT X c t) (ha : QSs X as a) (hb : QSs X rest b) : QSs X (.If c as [] pos :: rest) (wsIfR t a b) := PSs.imp (pss_cons (ps_if hc ha pss_nil) hb) fun D σ H ⟨am, H0, Hs0, ts, n, W, s, h, k, kx⟩ =>
  tTT_at kx s h fun c n' hc H' s' => by
    cases c with
    | true => exact iteT ⟨am, H0, Hs0, ts, n', { W with nx := fun _ _ => False }, s', hc, ⟨fun _ _ _ _ _ z => z.elim, k.rt, k.bk, k.ct⟩, kx⟩
    | false => exact iteF ⟨am, H0, Hs0, ts, n', W, s', hc, k, kx⟩
end
end TL
/-! own classes at the tree level -/
namespace TL
open PySem PySem.Spec PyProof.Rows L2
variable [Mach] [CN]
section
variable {K : PySem.W.Frag} {am : Option Addr} {H : Hp}
theorem RepF.look (f : Str) : ∀ {fts : List (Str × T)} {fvs : List (Str × V)}, RepF K am H fts fvs → (∀ t, fts.lookup f = some t → ∃ v, fvs.lookup f = some v ∧ Rep K am H t v) ∧ (fts.lookup f = none → fvs.lookup f = none)
  | [], fvs, h => by
    simp only [RepF] at h
    subst h
    exact ⟨fun t e => (by cases e), fun _ => rfl⟩
  | (g, t) :: r, fvs, h => by
    simp only [RepF] at h
    obtain ⟨v, rs, rfl, h1, h2⟩ := h
    have ih := RepF.look f h2
    by_cases e : f = g
    · subst e
      refine ⟨fun u q => ?_, fun q => ?_⟩
      · rw [List.lookup_cons, beq_self_eq_true] at q
        cases q
        exact ⟨v, by rw [List.lookup_cons, beq_self_eq_true], h1⟩
      · rw [List.lookup_cons, beq_self_eq_true] at q; cases q
    · have e' : (f == g) = false := beq_eq_false_iff_ne.mpr e
      rw [List.lookup_cons, List.lookup_cons, e']
      exact ih
def putFT (f : Str) (t : T) : List (Str × T) → List (Str × T)
  | [] => [(f, t)]
  | (g, x) :: r => if g = f then (g, t) :: r else (g, x) :: putFT f t r
theorem RepF.put {f : Str} {t : T} {v : V} (rv : Rep K am H t v) : ∀ {fts : List (Str × T)} {fvs : List (Str × V)}, RepF K am H fts fvs → RepF K am H (putFT f t fts) (L2.putF f v fvs)
  | [], fvs, h => by
    simp only [RepF] at h
    subst h
    simp only [putFT, L2.putF, RepF]
    exact ⟨v, [], rfl, rv, rfl⟩
  | (g, x) :: r, fvs, h => by
    simp only [RepF] at h
    obtain ⟨y, rs, rfl, h1, h2⟩ := h
    simp only [putFT, L2.putF]
    by_cases e : g = f
    · rw [if_pos e, if_pos e]
      simp only [RepF]
      exact ⟨v, rs, rfl, rv, h2⟩
    · rw [if_neg e, if_neg e]
      simp only [RepF]
      exact ⟨y, _, rfl, h1, RepF.put rv h2⟩
theorem RepF.length : ∀ {fts : List (Str × T)} {fvs : List (Str × V)}, RepF K am H fts fvs → fts.length = fvs.length
  | [], fvs, h => by simp only [RepF] at h; subst h; rfl
  | (g, x) :: r, fvs, h => by
    simp only [RepF] at h
    obtain ⟨y, rs, rfl, h1, h2⟩ := h
    simp only [List.length_cons, RepF.length h2]
end
/-- what the written part says of an own class -/
structure ObjC (K : PySem.W.Frag) (C : Addr) : Prop where
  cl : Cls K C
  ha : PySem.W.findIn K (.ref C) "__class__" = some (some (.builtin "object.__class__"))
  hm : PySem.W.mroIn K C (.type "object") = some true
structure ExcK (K : PySem.W.Frag) (C : Addr) : Prop where
  xf : XfC K C
  hcl : (PySem.W.clsIn K C).isSome = true
  ha : PySem.W.findIn K (.ref C) "__class__" = some (some (.builtin "object.__class__"))
  hm : PySem.W.mroIn K C (.type "object") = some true
structure ClF (K : PySem.W.Frag) [XCl] : Prop where
  hn : PySem.W.specialIn K (.builtin "object.__class__") "__get__" = some (some (.builtin "getset_descriptor.__get__"))
  htk : PySem.W.takesIn K (.builtin "object.__class__") = some true
  ob : ∀ c C, CN.at_ c = some C → (XCl.fam c).isSome = true → XCl.exc c = false → ObjC K C ∧ ∀ f ∈ XCl.flds c, NoAttr K C f
  ex : ∀ c C, CN.at_ c = some C → (XCl.fam c).isSome = true → XCl.exc c = true → ExcK K C ∧ ∀ f ∈ XCl.flds c, PySem.W.findIn K (.ref C) f = some none
  isa : ∀ c C f c', CN.at_ c = some C → XCl.fam c = some f → c' ∈ XCl.asked → ∀ C', CN.at_ c' = some C' → PySem.W.kitOne K (.ref C) (.ref C') = some (f.contains c')
  isb : ∀ c C f, CN.at_ c = some C → XCl.fam c = some f → ∀ t ∈ XCl.tys, PySem.W.kitOne K (.ref C) (.type t) = some (f.contains (t : Str))
  bi : ∀ c C, CN.at_ c = some C → c ∈ XCl.asked → ∀ t ∈ ["NoneType", "int", "bool", "str", "tuple", "list", "dict"], PySem.W.kitOne K (.type t) (.ref C) = some false
/-! ### fields -/
def gAttr [XCl] (f : Str) : G1 := fun x R => match x with
  | .obj c fs => (XCl.fam c).isSome = true ∧ XCl.exc c = false ∧ f ∈ XCl.flds c ∧ ∃ t, fs.lookup f = some t ∧ R t
  | .exc c fs => (XCl.fam c).isSome = true ∧ XCl.exc c = true ∧ f ∈ XCl.flds c ∧ ∃ t, fs.lookup f = some t ∧ R t
  | _ => False
section
variable [Xw] {X : Cx} {e : Expr} {es : List Expr} {f : Str} {fe : WE} {pos : Pos}
theorem q_attr [XCl] (F : ClF X.K) (he : QE X e fe) (hb : attributeBase e f X.env (eval e X.env) = eval e X.env := by rfl) : QE X (.Attribute e f pos) (w1 (gAttr f) fe) := by
  refine ⟨fun pins s σ H Q I ⟨am, Hs, ts, n, R, sp, re, h, k⟩ => ?_⟩
  refine attr_of hb (thn (he.run pins s σ H (fun v H1 => ∃ x n1 Hs1, Ext am Hs H Hs1 H1 n1 ∧ Rep X.K am Hs1 x v ∧ gAttr f x fun z => R z n1) I ⟨am, Hs, ts, n, _, sp, re, h, fun x n1 hx vx Hs1 H1 e1 rx => ⟨x, n1, Hs1, e1, rx, hx⟩⟩) fun u s1 hh => ?_)
  obtain ⟨v, H1, I1, ru, x, n1, Hs1, e1, rx, hx⟩ := hh
  unfold gAttr at hx
  split at hx
  · rename_i c fts
    obtain ⟨h1, h2, h3, t, h4, h5⟩ := hx
    simp only [Rep] at rx
    obtain ⟨a, C, dx, fvs, rfl, hC, ha, rf⟩ := rx
    obtain rfl : u = Value.ref a := ru
    obtain ⟨oc, nf⟩ := F.ob c C hC h1 h2
    obtain ⟨w, l, rw_⟩ := (rf.look f).1 t h4
    exact getattr_ok I1 (e1.spl.sub _ _ ha) oc.cl (nf f h3) l fun u' s2 I2 ru' => ⟨w, H1, I2, ru', k t n1 h5 w Hs1 H1 e1 rw_⟩
  · rename_i c fts
    obtain ⟨h1, h2, h3, t, h4, h5⟩ := hx
    simp only [Rep] at rx
    obtain ⟨a, C, dd, fvs, rfl, hC, ha, hd, rf⟩ := rx
    obtain rfl : u = Value.ref a := ru
    obtain ⟨xc, nf⟩ := F.ex c C hC h1 h2
    obtain ⟨w, l, rw_⟩ := (rf.look f).1 t h4
    obtain ⟨⟨oe, vs, q1, q2, q3⟩, _, _⟩ := I1.hok a _ (e1.spl.sub _ _ ha)
    obtain ⟨mA, hns, hr⟩ := (show ObjOk X.prog X.w H1 s1.heap dd (.xd fvs) from I1.hok dd _ (e1.spl.sub _ _ hd))
    obtain ⟨od, ho, hl⟩ := lookIn_ns hns
    obtain ⟨u', hu, ru'⟩ := RelO.some_of (v := w) (o := mA f) (by rw [← l]; exact hr f)
    have J : PySem.W.InstAt s1.heap a oe C (some od) := ⟨q1, q2.1, by unfold PySem.W.notCls; rw [q3] <;> rfl, by rw [q2.2]; exact ho⟩
    exact HandSPX.exc_get I1.kIn J xc.xf.ga xc.xf.gg xc.xf.exC (PySem.W.findObj_own xc.xf.hdC (nf f h3) rfl (by rw [hl, hu])) (handed_of ru') ⟨w, H1, I1.tok _, ru', k t n1 h5 w Hs1 H1 e1 rw_⟩
  · exact hx.elim
/-- an own class as a value -/
theorem q_globC {x : Str} {C : Addr} {p : Pos} (hg : Gl X x) (hm : X.mg x = some (.ref C)) (hC : CN.at_ x = some C) (hdb : (x == ("__debug__" : Str)) = false := by decide) : QE X (.Name x p) (wC (.cls x)) :=
  q_c (v := .ref C) (pe_glob hg hm rfl hdb) fun _ _ => by simp only [Rep]; exact ⟨C, hC, rfl⟩
/-! ### isinstance -/
def ownF [XCl] : T → Option (Str × List Str)
  | .obj c _ => if XCl.exc c = true then none else (XCl.fam c).map fun f => (c, f)
  | .exc c _ => if XCl.exc c = true then (XCl.fam c).map fun f => (c, f) else none
  | _ => none
abbrev tysV : List String := ["NoneType", "int", "bool", "str", "tuple", "list", "dict"]
def pIsiX [XCl] : GN := fun xs R => match xs with
  | [x, .cls c'] => c' ∈ XCl.asked ∧ match ownF x with
    | some (_, f) => R (.bl (f.contains c'))
    | none => match tyName x with
      | some t => t ∈ tysV ∧ R (.bl false)
      | none => False
  | [x, .ty t] => match ownF x with
    | some (_, f) => t ∈ XCl.tys ∧ R (.bl (f.contains (t : Str)))
    | none => pIsi [x, .ty t] R
  | _ => False
def rIsX (K : PySem.W.Frag) : List V → Hp → VK → Prop := fun xs H Q => ∃ (x c : V) (t u : Value) (b : Bool), xs = [x, c] ∧ ClsV c u ∧ (TyX K H x t ∨ ∃ a C dd fs, x = .ref a ∧ H a = some (xob a C dd) ∧ H dd = some (.xd fs) ∧ ExcK K C ∧ t = .ref C) ∧ PySem.W.kitOne K t u = some b ∧ Q (.bl b) H
theorem call_isiX [XCl] (F : ClF X.K) : CallR X (.builtin "isinstance") (rIsX X.K) := by
  intro pins s σ H xs us Q I r h
  obtain ⟨x, c, t, u, b, rfl, k, ty | ⟨a, C, dd, fs, rfl, ha, hd, xc, rfl⟩, e, q⟩ := h
  · exact call_isi pins s σ H _ us Q I r ⟨x, c, t, u, b, rfl, k, ty, e, q⟩
  · obtain ⟨u1, u2, rfl, r1, r2⟩ := vals2 r
    have e2 := k.eq r2
    subst e2
    obtain rfl : u1 = Value.ref a := r1
    obtain ⟨⟨oe, vs, q1, q2, q3⟩, _, _⟩ := I.hok a _ ha
    obtain ⟨mA, hns, hr⟩ := (show ObjOk X.prog X.w H s.heap dd (.xd fs) from I.hok dd _ hd)
    obtain ⟨od, ho, hl⟩ := lookIn_ns hns
    have J : PySem.W.InstAt s.heap a oe C (some od) := ⟨q1, q2.1, by unfold PySem.W.notCls; rw [q3] <;> rfl, by rw [q2.2]; exact ho⟩
    exact PySem.W.kia_one (PySem.W.kitx_exc xc.hcl xc.xf.ga xc.xf.gg xc.xf.exC xc.ha F.hn F.htk xc.hm) I.kIn J e (fun z => nomatch z) fun tk => ⟨.bl b, H, I.kept (t' := tk) fun _ _ z => z, rfl, q⟩
theorem ownF_ok [XCl] {am : Option Addr} {K : PySem.W.Frag} {Hs H : Hp} {x : T} {v : V} {c : Str} {f : List Str} (F : ClF K) (s : Same Hs H) (r : Rep K am Hs x v) (e : ownF x = some (c, f)) : ∃ C, CN.at_ c = some C ∧ XCl.fam c = some f ∧
    (TyX K H v (.ref C) ∨ ∃ a C' dd fs, v = .ref a ∧ H a = some (xob a C' dd) ∧ H dd = some (.xd fs) ∧ ExcK K C' ∧ (.ref C : Value) = .ref C') := by
  unfold ownF at e
  split at e
  · rename_i c' fts
    split at e
    · cases e
    · rename_i hx
      obtain ⟨f', hf, q⟩ := Option.map_eq_some_iff.mp e
      cases q
      simp only [Rep] at r
      obtain ⟨a, C, dx, fvs, rfl, hC, ha, rf⟩ := r
      obtain ⟨oc, nf⟩ := F.ob _ C hC (by rw [hf]; rfl) (Bool.eq_false_iff.mpr hx)
      exact ⟨C, hC, hf, .inl (.base (.ins (s _ _ ha) oc.cl oc.ha F.hn F.htk oc.hm))⟩
  · rename_i c' fts
    split at e
    · rename_i hx
      obtain ⟨f', hf, q⟩ := Option.map_eq_some_iff.mp e
      cases q
      simp only [Rep] at r
      obtain ⟨a, C, dd, fvs, rfl, hC, ha, hd, rf⟩ := r
      obtain ⟨xc, nf⟩ := F.ex _ C hC (by rw [hf]; rfl) hx
      exact ⟨C, hC, hf, .inr ⟨a, C, dd, fvs, rfl, s _ _ ha, s _ _ hd, xc, rfl⟩⟩
    · cases e
  · cases e
theorem ok_isiX [XCl] {K : PySem.W.Frag} (F : ClF K) : RNOk K (rIsX K) pIsiX := fun am Hs H n x vx R Q sp rx h k => by
  unfold pIsiX at h
  split at h
  · rename_i x c'
    obtain ⟨h1, h⟩ := h
    obtain ⟨v, r, rfl, r1, r2⟩ := Reps.cons_iff.mp rx
    obtain ⟨w, rfl, r3⟩ := r2.one
    simp only [Rep] at r3
    obtain ⟨C', hC', rfl⟩ := r3
    split at h
    · rename_i c f e
      obtain ⟨C, hC, hf, ty⟩ := ownF_ok F sp.sub r1 e
      exact ⟨v, .ref C', .ref C, .ref C', _, rfl, .own C', ty, F.isa c C f c' hC hf h1 C' hC', k.here sp h (by simp only [Rep])⟩
    · split at h
      · rename_i t e
        exact ⟨v, .ref C', .type t, .ref C', _, rfl, .own C', .inl (tyName_ok sp.sub r1 e), F.bi c' C' hC' h1 t h.1, k.here sp h.2 (by simp only [Rep])⟩
      · exact h.elim
  · rename_i x t
    split at h
    · rename_i c f e
      obtain ⟨v, r, rfl, r1, r2⟩ := Reps.cons_iff.mp rx
      obtain ⟨w, rfl, r3⟩ := r2.one
      simp only [Rep] at r3; subst r3
      obtain ⟨C, hC, hf, ty⟩ := ownF_ok F sp.sub r1 e
      exact ⟨v, .ty t, .ref C, .type t, _, rfl, .ty t, ty, F.isb c C f hC hf t h.1, k.here sp h.2 (by simp only [Rep])⟩
    · obtain ⟨v, c, t, u, b, q1, q2, q3, q4, q5⟩ := ok_isi am Hs H n _ vx R Q sp rx h k
      exact ⟨v, c, t, u, b, q1, q2, .inl q3, q4, q5⟩
  · exact h.elim
end
end TL
/-! methods, C(..), __init__, at the tree level -/
namespace TL
open PySem PySem.Spec PyProof.Rows L2
variable [Mach] [CN]
section
variable {P : Program} {w : World} {K : PySem.W.Frag} {mg : Str → Option Value} {base : Heap}
theorem fnTD_of {x qual : Str} {st : Stmt} {dvs : List V} {f : Addr} {fd : FuncData} {N ps : List Str} {k : Nat} {sp : Sp} (G : FunD K x qual (defArgs st) (defBody st) (defScope st) dvs [] f fd) (S : FnScope N ps (defScope st)) (len : ∀ vs H Q E, sp vs H Q E → vs.length = ps.length)
    (hbody : ∀ (cdv : Value) (A : Around) (outer : List PySem.Env) (s : Shared) (H : Hp) (vs : List V) (Q : VK) (E : XK), A.guards = some [] → Room k (A.deeper (PyProof.Rows.envOfC qual (defScope st) s.heap.objs.size f cdv)) → sp vs H Q E →
      ∃ t, PSs (cxT P w K mg base N qual st f cdv A outer s H E) (defBody st) t ∧ t { nx := fun _ H' => Q .non H', rt := Q } (L2.start N vs) H) : FnT P w K mg base (k + 1) f fd ps sp := by
  obtain ⟨oc, od, dV, kV, doc, pm, an, cdv, ct, osl, rfl, lk, hcd, _, _⟩ := G.ex
  refine ⟨len, fun A outer s H args us vs Q E hgd hr e0 hb r hsp => ?_⟩
  have KX : K.In s.heap := e0.mod.kin.keeps fun b o e => (e0.bs b o e).1
  have hk : ∀ y ∈ ps.zip us, (defScope st).names.lookup y.1 = some .local ∨ ((defScope st).names.lookup y.1 = some .cell ∧ ((cellsFrom (s.heap.objs.size + 1) (defScope st).names []).lookup y.1).isSome = true) := fun y hy =>
    (S.par y.1 (List.of_mem_zip (show (y.1, y.2) ∈ ps.zip us from hy)).1).elim .inl fun q => .inr ⟨q, PySem.W.cellsFrom_some _ _ _ (.inl q)⟩
  refine codeAny_call_function hr.depth (KX _ _ lk) rfl S.co S.gen rfl (PySem.W.codeRec_of KX hcd) (hb _ _ _ _ (wpAny_newFunctionEnv_cells S.kind hk fun env he s1 x => ?_))
  subst he
  refine ⟨(e0.mod.nolimit.keeps fun b o e => (e0.bs b o e).1).keeps x.toInCall.keep, codeAny_func ?_⟩
  have I : Inv (cxT P w K mg base N qual st f cdv A outer s H E) [] (L2.start N vs) H s1 := inv_start S hr.hd e0 (len _ _ _ _ hsp) r x
  obtain ⟨t, ht, hq⟩ := hbody cdv A outer s H vs Q E hgd (hr.deeper _) hsp
  refine wpAny_mono (ht.run [] s1 (L2.start N vs) H _ I hq) (fun fl s' hs => ?_) fun e s' hs => hs
  match fl, hs with
  | .ret u, ⟨v, σ', H', J, rv, q⟩ => exact ⟨v, H', J.os, J.bare, J.base, J.hok, rv, q⟩
  | .next, ⟨σ', H', J, q⟩ => exact ⟨.non, H', J.os, J.bare, J.base, J.hok, rfl, q⟩
  | .brk, ⟨_, _, _, q⟩ => exact q.elim
  | .cont, ⟨_, _, _, q⟩ => exact q.elim
/-- every parameter is given -/
theorem bindsAll {x qual : Str} {params : Arguments} {bd : List Stmt} {scope : Scope} {dvs : List V} {f : Addr} {fd : FuncData} {ps : List Str} (G : FunD K x qual params bd scope dvs [] f fd)
    (h : ∀ (dV kV doc pm : Value) (an : Option Addr) (cdv ct : Value) (us : List Value), us.length = ps.length → bindArgs (PySem.W.fnOf x qual params bd scope dV kV doc pm an cdv ct) ⟨us, []⟩ = pure (ps.zip us)) : Binds K fd ps [] := by
  obtain ⟨oc, od, dV, kV, doc, pm, an, cdv, ct, osl, rfl, lk, hcd, _, _⟩ := G.ex
  exact Binds.all (h dV kV doc pm an cdv ct)
end
/-- a def that stands in a class -/
abbrev FunM (K : PySem.W.Frag) (x qual : Str) (st : Stmt) (dvs : List V) (f : Addr) (fd : FuncData) : Prop := FunD K x qual (defArgs st) (defBody st) (defScope st) dvs [] f fd
/-- how a call binds: j of the defaults are given -/
def BindOk (x qual : Str) (st : Stmt) (ps : List Str) (nd j : Nat) : Prop := ∀ (K : PySem.W.Frag) (dvs : List V) (f : Addr) (fd : FuncData), FunM K x qual st dvs f fd → dvs.length = nd → ∃ ds, Vals (dvs.drop j) ds ∧ Binds K fd ps ds
theorem bind_all {x qual : Str} {st : Stmt} {ps : List Str} {nd : Nat} (h : ∀ (dV kV doc pm : Value) (an : Option Addr) (cdv ct : Value) (us : List Value), us.length = ps.length → bindArgs (PySem.W.fnOf x qual (defArgs st) (defBody st) (defScope st) dV kV doc pm an cdv ct) ⟨us, []⟩ = pure (ps.zip us)) : BindOk x qual st ps nd nd := fun K dvs f fd G hl => by
  rw [← hl, List.drop_length]
  exact ⟨[], .nil, bindsAll G h⟩
theorem bind_some {x qual : Str} {st : Stmt} {ps : List Str} {nd : Nat} (n j : Nat) (h0 : nd ≠ 0) (hn : n + (nd - j) = ps.length)
    (h : ∀ (T : Addr) (kV doc pm : Value) (an : Option Addr) (cdv ct : Value) (us its : List Value), us.length = n → its.length = nd →
      ∃ k, bindArgs (PySem.W.fnOf x qual (defArgs st) (defBody st) (defScope st) (.ref T) kV doc pm an cdv ct) ⟨us, []⟩ = seqItems? (.ref T) >>= k ∧ k (some its.toArray) = pure (ps.zip (us ++ its.drop j))) : BindOk x qual st ps nd j := fun K dvs f fd G hl => by
  subst hl
  exact G.binds1 n j (fun e => h0 (by rw [e]; rfl)) hn h
/-! ### o.m(..) -/
/-- a method of the class c: its promise, self ahead -/
def MCal (P : Program) (w : World) (K : PySem.W.Frag) (mg : Str → Option Value) (base : Heap) (k : Nat) (c m qual : Str) (st : Stmt) (ps : List Str) (dts : List T) (F : FT) : Prop :=
  ∃ C f fd dvs, CN.at_ c = some C ∧ Cls K C ∧ Meth K C m f ∧ FunM K m qual st dvs f fd ∧ (∀ am H, Reps K am H dts dvs) ∧ FnT P w K mg base k f fd ps (spT K F)
def wMeth (E : XE) (c m : Str) (dts : List T) (F : FT) (fo : WE) (fa : WA) : WE := fun ts n R => fo ts n fun x n1 => match x with
  | .obj c' fs => c' = c ∧ fs.lookup m = none ∧ fa ts n1 fun xs n2 => F (x :: (xs ++ dts)) n2 R E
  | _ => False
section
variable [Xw] {X : Cx} {j k : Nat} {ps : List Str} {F : FT} {c m : Str} {o e : Expr} {es : List Expr} {fo : WE} {fa : WA} {apos pos : Pos} {nj : Nat} {qual : Str} {st : Stmt} {dts : List T}
theorem run_fnTX {pins : List (Addr × Obj)} {σ : L2.St} {H : Hp} {s : Shared} {Q : VK} {us : List Value} {vs : List V} {W : WX} {f : Addr} {fd : FuncData} {sp : Sp} {ds : List Value} {dvs : List V} (G : FnT X.prog X.w X.K X.mg X.base k f fd ps sp) (hg : X.A.guards = some []) (hr : Room k X.A) (hb : Binds X.K fd ps ds) (hd : Vals dvs ds)
    (tk : Takes X W) (I : Inv X pins σ H s) (r : Vals vs us) (h : sp (vs ++ dvs) H Q (fun cls d H' => W cls d σ H')) : wpAny (model X.prog X.w) X.A (call (.ref f) us) (EP X pins σ Q) X.xe s := run_fnT G hg hr hb hd tk I r h
theorem q_meth {pl : Sem Bool} (tk : Takes X Xw.W) (hgd : X.A.guards = some []) (G : MCal X.prog X.w X.K X.mg X.base k c m qual st ps dts F) (B : BindOk m qual st ps dts.length nj) (hr : Room j X.A) (hj : k ≤ j) (ho : QE X o fo) (ha : QA X (e :: es) fa)
    (hst : starEach (e :: es) X.env = (false, eval e X.env) :: starEach es X.env := by rfl) (hpl : (backTo pos (starEach es X.env)).any (·.1) = false := by rfl)
    (ht : eval (.Call (.Attribute o m apos) (e :: es) [] pos) X.env = (do
      let ov ← eval o X.env
      standAt apos.atName
      let (f, first) ← holding [ov] (getMethod ov m pl)
      callWith pos f first (backTo pos (starEach (e :: es) X.env)) (backToKw pos (keywordEach [] X.env))) := by rfl) :
    QE X (.Call (.Attribute o m apos) (e :: es) [] pos) (wMeth Xw.RE c m (dts.drop nj) F fo fa) := by
  obtain ⟨C, f, fd, dvs, hC, cl, hm, fm, hdt, G⟩ := G
  obtain ⟨ds, hd, hb⟩ := B _ dvs f fd fm (hdt none (fun _ => none)).length.symm
  refine ⟨fun pins s σ H Q I ⟨am, Hs, ts, n, R, sp, re, h, k⟩ => ?_⟩
  refine PySem.W.methodCall_KW (pl := pl) (thn (ho.run pins s σ H (fun v H1 => ∃ a fs C' dx fvs n1 Hs1, v = .ref a ∧ Ext am Hs H Hs1 H1 n1 ∧ CN.at_ c = some C' ∧ Hs1 a = some (.ins C' dx fvs) ∧ fvs.lookup m = none ∧ Rep X.K am Hs1 (.obj c fs) v ∧ fa ts n1 fun xs n2 => F (.obj c fs :: (xs ++ dts.drop nj)) n2 R Xw.RE) I ⟨am, Hs, ts, n, _, sp, re, h, fun x n1 hx vx Hs1 H1 e1 rx => ?_⟩) fun u s1 hh => ?_) ht
  · split at hx
    · rename_i c' fs
      obtain ⟨rfl, hl, hx⟩ := hx
      have rx' := rx
      simp only [Rep] at rx
      obtain ⟨a, C', dx, fvs, rfl, h1, h2, h3⟩ := rx
      exact ⟨a, fs, C', dx, fvs, n1, Hs1, rfl, e1, h1, h2, (h3.look m).2 hl, rx', hx⟩
    · exact hx.elim
  · obtain ⟨v, H1, I1, ru, a, fs, C', dx, fvs, n1, Hs1, rfl, e1, h1, h2, hl, rx, hx⟩ := hh
    obtain rfl : u = Value.ref a := ru
    rw [hC] at h1
    cases h1
    refine getmeth_ok I1 (e1.spl.sub _ _ h2) cl hm hl ?_
    refine PySem.W.callWith_K (first := [.ref a]) (h₀ := X.base) I.ok.mod.kin hm.kp (thn (ha.run pos pins s1 σ H1 (fun vs H2 => spT X.K F ((V.ref a :: vs) ++ dvs.drop nj) H2 Q fun cls d H' => Xw.W cls d σ H') I1 ⟨am, Hs1, ts, n1, _, e1.spl, re.ext e1, hx, fun xs n2 hxs vs Hs2 H2 e2 rxs => ?_⟩) fun us s2 ⟨vs, H2, I2, r, q2⟩ => ⟨I2.kIn, ?_⟩) hst hpl
    · exact spT_at re k (e1.trans e2) (Reps.append (Reps.mk_cons (Rep.mono e2.same _ _ rx) rxs) ((hdt am Hs2).drop nj)) hxs
    · exact run_fnT (us := .ref a :: us) (vs := .ref a :: vs) G hgd (hr.mono hj) hb hd tk I2 (.cons rfl r) q2
theorem q_meth0 {pl : Sem Bool} (tk : Takes X Xw.W) (hgd : X.A.guards = some []) (G : MCal X.prog X.w X.K X.mg X.base k c m qual st ps dts F) (B : BindOk m qual st ps dts.length nj) (hr : Room j X.A) (hj : k ≤ j) (ho : QE X o fo)
    (ht : eval (.Call (.Attribute o m apos) [] [] pos) X.env = (do
      let ov ← eval o X.env
      standAt apos.atName
      let (f, first) ← holding [ov] (getMethod ov m pl)
      callWith pos f first (backTo pos (starEach [] X.env)) (backToKw pos (keywordEach [] X.env))) := by rfl) :
    QE X (.Call (.Attribute o m apos) [] [] pos) (wMeth Xw.RE c m (dts.drop nj) F fo wNil) := by
  obtain ⟨C, f, fd, dvs, hC, cl, hm, fm, hdt, G⟩ := G
  obtain ⟨ds, hd, hb⟩ := B _ dvs f fd fm (hdt none (fun _ => none)).length.symm
  refine ⟨fun pins s σ H Q I ⟨am, Hs, ts, n, R, sp, re, h, k⟩ => ?_⟩
  refine PySem.W.methodCall_KW (pl := pl) (thn (ho.run pins s σ H (fun v H1 => ∃ a fs C' dx fvs n1 Hs1, v = .ref a ∧ Ext am Hs H Hs1 H1 n1 ∧ CN.at_ c = some C' ∧ Hs1 a = some (.ins C' dx fvs) ∧ fvs.lookup m = none ∧ Rep X.K am Hs1 (.obj c fs) v ∧ F (.obj c fs :: dts.drop nj) n1 R Xw.RE) I ⟨am, Hs, ts, n, _, sp, re, h, fun x n1 hx vx Hs1 H1 e1 rx => ?_⟩) fun u s1 hh => ?_) ht
  · split at hx
    · rename_i c' fs
      obtain ⟨rfl, hl, hx⟩ := hx
      have rx' := rx
      simp only [Rep] at rx
      obtain ⟨a, C', dx, fvs, rfl, h1, h2, h3⟩ := rx
      exact ⟨a, fs, C', dx, fvs, n1, Hs1, rfl, e1, h1, h2, (h3.look m).2 hl, rx', hx⟩
    · exact hx.elim
  · obtain ⟨v, H1, I1, ru, a, fs, C', dx, fvs, n1, Hs1, rfl, e1, h1, h2, hl, rx, hx⟩ := hh
    obtain rfl : u = Value.ref a := ru
    rw [hC] at h1
    cases h1
    refine getmeth_ok I1 (e1.spl.sub _ _ h2) cl hm hl ?_
    have q : spT X.K F ([V.ref a] ++ dvs.drop nj) H1 Q fun cls d H' => Xw.W cls d σ H' := spT_at re k e1 (Reps.append (Reps.mk_cons rx (Reps.nil_iff.mpr rfl)) ((hdt am Hs1).drop nj)) hx
    exact PySem.W.callWith_K0 (first := [.ref a]) I1.kIn hm.kp (run_fnT (us := [.ref a]) (vs := [.ref a]) G hgd (hr.mono hj) hb hd tk I1 (.cons rfl .nil) q)
end
/-! ### C(..) -/
abbrev FTI := List T → Nat → (List (Str × T) → Nat → Prop) → XE → Prop
/-- __init__'s promise: a new instance becomes one with these fields -/
def spI (K : PySem.W.Frag) (c : Str) (F : FTI) : Sp := fun vs H Q E => ∃ (am : Option Addr) (H0 Hs0 : Hp) (ts : List T) (n : Nat) (R : List (Str × T) → Nat → Prop) (RE : XE) (l C dx : Addr) (ws : List V),
  vs = .ref l :: ws ∧ CN.at_ c = some C ∧ H0 l = none ∧ H0 dx = none ∧ dx ≠ l ∧ H = upd (upd H0 dx (.own l)) l (.ins C dx []) ∧ Spl am Hs0 H0 n ∧ Reps K am Hs0 ts ws ∧ F ts n R RE ∧
  (∀ fs n', R fs n' → ∀ Hs' H' fvs, Ext am Hs0 H0 Hs' H' n' → Hs' l = none → ¬ MC am H' l → H' l = some (.ins C dx fvs) → RepF K am Hs' fs fvs → Q .non H') ∧
  ∀ x n', RE x n' → ∀ cls d Hs' H', Ext am Hs0 H0 Hs' H' n' → RepX K am Hs' x cls d → E cls d H'
def ICal (P : Program) (w : World) (K : PySem.W.Frag) (mg : Str → Option Value) (base : Heap) (k : Nat) (c qual : Str) (st : Stmt) (ps : List Str) (dts : List T) (F : FTI) : Prop :=
  ∃ C f fd dvs, CN.at_ c = some C ∧ mg c = some (.ref C) ∧ Mk K C f ∧ FunM K "__init__" qual st dvs f fd ∧ (∀ am H, Reps K am H dts dvs) ∧ FnT P w K mg base k f fd ps (spI K c F)
def wMake (E : XE) (c : Str) (dts : List T) (F : FTI) (fa : WA) : WE := fun ts n R => fa ts n fun xs n1 => F (xs ++ dts) n1 (fun fs n2 => R (.obj c fs) n2) E
section
variable [Xw] {X : Cx} {j k : Nat} {ps : List Str} {F : FTI} {c : Str} {e : Expr} {es : List Expr} {fa : WA} {p pos : Pos} {nj : Nat} {qual : Str} {st : Stmt} {dts : List T}
theorem run_makeT {pins : List (Addr × Obj)} {σ : L2.St} {H : Hp} {s : Shared} {Q : VK} {us : List Value} {vs : List V} {C f : Addr} {fd : FuncData} {sp : Sp} {ds : List Value} {dvs : List V} {W : WX} (M : Mk X.K C f) (G : FnT X.prog X.w X.K X.mg X.base k f fd ps sp) (hg : X.A.guards = some []) (hr : Room (k + 1) X.A) (hb : Binds X.K fd ps ds) (hd : Vals dvs ds)
    (tk : Takes X W) (I : Inv X pins σ H s) (r : Vals vs us)
    (h : ∀ x dx, H x = none → H dx = none → dx ≠ x → sp (.ref x :: (vs ++ dvs)) (upd (upd H dx (.own x)) x (.ins C dx [])) (fun v H2 => v = .non ∧ Q (.ref x) H2) (fun cls d H' => W cls d σ H')) :
    wpAny (model X.prog X.w) X.A (call (.ref C) us) (EP X pins σ Q) X.xe s := by
  have hq := h (s.heap.objs.size + 1) s.heap.objs.size (I.hok.fresh (Nat.le_succ _)) (I.hok.fresh (Nat.le_refl _)) (Nat.ne_of_lt (Nat.lt_succ_self _))
  have I2 := Inv.made (C := C) I
  have r2 : Vals (V.ref (s.heap.objs.size + 1) :: (vs ++ dvs)) (Value.ref (s.heap.objs.size + 1) :: (us ++ ds)) := .cons rfl (r.append hd)
  have hl : (Value.ref (s.heap.objs.size + 1) :: us ++ ds).length = ps.length := by
    have e := r2.length
    rw [G.len _ _ _ _ hq] at e
    exact e.symm
  have hgm : (X.A.under (.builtin "type.__call__" ⟨.ref C :: us, []⟩)).guards = some [] := by
    first | exact hg | (rw [← hg]; rfl)
  refine wpAny_call (make_map (f := f) I.kIn M.makes M.init (beq_iff_eq.mp M.fn) (codeAny_mono (G.run _ X.stack _ _ ⟨Value.ref (s.heap.objs.size + 1) :: us, []⟩ (Value.ref (s.heap.objs.size + 1) :: (us ++ ds)) _ _ (fun cls d H' => W cls d σ H') hgm (hr.make C us [])
    (I2.env0.make C us []) (hb _ (Value.ref (s.heap.objs.size + 1) :: us) I2.kIn hl) r2 hq) fun r s' hq' => ?_))
  cases r with
  | error e => exact tk e s' (XE.of_call I2 (fun _ _ _ h => h) hq')
  | ok fl =>
    cases fl with
    | ret u =>
      obtain ⟨v, H', I3, rv, ev, q3⟩ := I2.after hq'
      subst ev
      exact ⟨rv, ⟨V.ref (s.heap.objs.size + 1), H', I3, rfl, q3⟩⟩
    | next => exact False.elim hq'
    | brk => exact False.elim hq'
    | cont => exact False.elim hq'
theorem q_make (tk : Takes X Xw.W) (hgd : X.A.guards = some []) (G : ICal X.prog X.w X.K X.mg X.base k c qual st ps dts F) (B : BindOk "__init__" qual st ps dts.length nj) (hr : Room j X.A) (hj : k + 1 ≤ j) (hg : Gl X c) (ha : QA X (e :: es) fa)
    (hdb : (c == ("__debug__" : Str)) = false := by decide) (he : starEach (e :: es) X.env = (false, eval e X.env) :: starEach es X.env := by rfl) (hpl : (backTo pos (starEach es X.env)).any (·.1) = false := by rfl) :
    QE X (.Call (.Name c p) (e :: es) [] pos) (wMake Xw.RE c (dts.drop nj) F fa) := by
  obtain ⟨C, f, fd, dvs, hC, hm, M, fm, hdt, G⟩ := G
  obtain ⟨ds, hd, hb⟩ := B _ dvs f fd fm (hdt none (fun _ => none)).length.symm
  refine ⟨fun pins s σ H Q I ⟨am, Hs, ts, n, R, sp, re, h, k⟩ => ?_⟩
  refine wpAny_Call_Name_kw (ld_glob I hg hm ?_ hdb)
  refine PySem.W.callWith_K (h₀ := X.base) I.ok.mod.kin M.kp (thn (ha.run pos pins s σ H (fun vs H1 => ∀ x dx, H1 x = none → H1 dx = none → dx ≠ x → spI X.K c F (.ref x :: (vs ++ dvs.drop nj)) (upd (upd H1 dx (.own x)) x (.ins C dx [])) (fun v H2 => v = .non ∧ Q (.ref x) H2) (fun cls d H' => Xw.W cls d σ H')) I
    ⟨am, Hs, ts, n, _, sp, re, h, fun xs n1 hx vs Hs1 H1 e1 rx l dx hl hdx nd => ?_⟩) fun us s1 ⟨vs, H1, I1, r, q⟩ => ⟨I1.kIn, ?_⟩) he hpl
  · refine ⟨am, H1, Hs1, xs ++ dts.drop nj, n1, _, Xw.RE, l, C, dx, vs ++ dvs.drop nj, rfl, hC, hl, hdx, nd, rfl, e1.spl, rx.append ((hdt am Hs1).drop nj), hx, fun fs n' hR Hs' H' fvs y h0 hmc hins rf => ⟨rfl, ?_⟩, fun z n' hz cls d Hs' H' y q => re.xk z n' cls d Hs' H' hz (e1.trans y) q⟩
    have y2 := e1.trans y
    have hl0 := e1.keep.dom l hl
    refine k (.obj c fs) n' hR (.ref l) (upd Hs' l (.ins C dx fvs)) H' (y2.share hl0 h0 hmc hins) ?_
    simp only [Rep]
    exact ⟨l, C, dx, fvs, rfl, hC, upd_same, RepF.mono (Same.upd_new h0) _ _ rf⟩
  · exact run_makeT M G hgd (hr.mono hj) hb hd tk I1 r q
end
/-! ### __init__: statements, then the fields -/
abbrev WIn := Env → Nat → (List (Str × T) → Nat → Prop) → Prop
abbrev WTl := List (Str × T) → Env → Nat → (List (Str × T) → Nat → Prop) → Prop
def wtNil : WTl := fun acc _ n R => R acc n
def wtCons (f : Str) (fe : WE) (r : WTl) : WTl := fun acc ts n R => fe ts n fun t n1 => acc.length < 1000 ∧ r (putFT f t acc) ts n1 R
def winTail (tl : WTl) : WIn := fun ts n R => tl [] (ts.map Sl.see) n R
def winSeq (a : WS) (b : WIn) : WIn := fun ts n R => a { nx := fun ts' n' => ts'[0]? = ts[0]? ∧ b ts' n' R, rt := fun _ _ => False } ts n
/-- the base without the new instance -/
def hid (H : Hp) (l : Addr) : Hp := fun b => if b = l then none else H b
theorem Ext.hid {am : Option Addr} {Hs0 H0 Hs H : Hp} {n n0 : Nat} {l : Addr} (x : Ext am Hs0 H0 Hs H n) (s0 : Spl am Hs0 H0 n0) (hm : ¬ MC am H0 l) : Ext am Hs0 (hid H0 l) Hs H n := by
  have mc : ∀ a, MC am (TL.hid H0 l) a ↔ MC am H0 a := fun a => by
    constructor
    · rintro ⟨m, e, q⟩
      refine ⟨m, e, ((Mach.frame (s0.mok m e).ok fun b hb => ?_).2 a).mp q⟩
      unfold TL.hid
      rw [if_neg fun z : b = l => hm ⟨m, e, by rw [← z]; exact hb⟩]
    · rintro ⟨m, e, q⟩
      refine ⟨m, e, ((Mach.frame (s0.mok m e).ok fun b hb => ?_).2 a).mpr q⟩
      unfold TL.hid
      rw [if_neg fun z : b = l => hm ⟨m, e, by rw [← z]; exact hb⟩]
  have ne : ∀ {a : Addr} {o : HO}, TL.hid H0 l a = some o → H0 a = some o := fun {a o} e => by
    unfold TL.hid at e
    split at e
    · cases e
    · exact e
  refine ⟨x.spl, x.same, ⟨fun a o e q => x.keep.at_ a o (ne e) fun z => q ((mc a).mpr z), fun a z => (x.keep.mc a z).imp (mc a).mpr fun q => ?_, fun a z => ?_⟩, fun a o e => (x.new a o e).imp id fun q => ?_⟩
  · unfold TL.hid; split
    · rfl
    · exact q
  · unfold TL.hid; split
    · rfl
    · exact x.keep.dom a z
  · unfold TL.hid; split
    · rfl
    · exact q
def sTI [Xw] (K : PySem.W.Frag) (c : Str) (wi : WIn) : TS := fun D σ H => ∃ (am : Option Addr) (H0 Hs0 : Hp) (ts : Env) (n n0 : Nat) (R : List (Str × T) → Nat → Prop) (l C dx : Addr), ST K am H0 Hs0 σ H ts n ∧ Spl am Hs0 H0 n0 ∧ H0 l = some (.ins C dx []) ∧ Hs0 l = none ∧ ¬ MC am H0 l ∧ ts[0]? = some (.tr (.cst l)) ∧
  CN.at_ c = some C ∧ ObjC K C ∧ wi ts n R ∧ XAt K am H0 Hs0 σ ∧ ∀ fs n', R fs n' → ∀ σ' Hs' H' fvs, Ext am Hs0 (hid H0 l) Hs' H' n' → Hs' l = none → ¬ MC am H' l → H' l = some (.ins C dx fvs) → RepF K am Hs' fs fvs → D.nx σ' H'
def sTT (K : PySem.W.Frag) (flds : List Str) (tl : WTl) : TS := fun D σ H => ∃ (am : Option Addr) (H0 Hs0 Hs : Hp) (ts : Env) (n : Nat) (R : List (Str × T) → Nat → Prop) (l C dx : Addr) (acc : List (Str × T)) (fvs : List (Str × V)), Ext am Hs0 H0 Hs H n ∧ RepE0 K am Hs H σ ts ∧ (∀ (i : Nat) (t : T), ts[i]? ≠ some (Sl.own t)) ∧ H0 l = none ∧ Hs l = none ∧ ¬ MC am H l ∧
  ts[0]? = some (.tr (.cst l)) ∧ ObjC K C ∧ (∀ f ∈ flds, NoAttr K C f) ∧ H l = some (.ins C dx fvs) ∧ RepF K am Hs acc fvs ∧ tl acc ts n R ∧ ∀ fs n', R fs n' → ∀ σ' Hs' H' fvs, Ext am Hs0 H0 Hs' H' n' → Hs' l = none → ¬ MC am H' l → H' l = some (.ins C dx fvs) → RepF K am Hs' fs fvs → D.nx σ' H'
section
variable {X : Cx} {st : Stmt} {rest : List Stmt} {a : WS} {b : WIn} {flds : List Str} {tl : WTl} {e : Expr} {fe : WE} {f : Str} {x : Str} {p p' pos : Pos}
theorem qn_nil : PSs X [] (sTT X.K flds wtNil) := letI : Xw := Xw.no; PSs.imp pss_nil fun D σ H ⟨am, H0, Hs0, Hs, ts, n, R, l, C, dx, acc, fvs, x, re, no, h0, hs, hm, e0, oc, nf, ho, rf, h, k⟩ => k acc n h σ Hs H fvs x hs hm ho rf
theorem qn_cons (hf : f ∈ flds) (hv : PE X (.Name x p) (tVar 0)) (he : @QE _ _ Xw.no X e fe) (hr : PSs X rest (sTT X.K flds tl)) (hs : swapsWith e (some (.Attribute (.Name x p) f p')) pos.line X.env = pure false := by rfl) :
    PSs X (.Assign [.Attribute (.Name x p) f p'] e pos :: rest) (sTT X.K flds (wtCons f fe tl)) := letI : Xw := Xw.no; PSs.imp (pss_cons (ps_fld hv he hs) hr) fun D σ H ⟨am, H0, Hs0, Hs, ts, n, R, l, C, dx, acc, fvs, x, re, no, h0, hs, hm, e0, oc, nf, ho, rf, h, k⟩ => by
  letI : Xw := Xw.no
  refine ⟨am, Hs, ts, n, _, x.spl, re.no, h, fun t n1 ht v Hs1 H1 e1 rv => ?_⟩
  obtain ⟨u, q1, q2⟩ := re.at_ 0 _ e0
  simp only [Rep] at q2
  subst q2
  have hs1 : Hs1 l = none := by
    cases q : Hs1 l with
    | none => rfl
    | some o => exact (e1.new l o q).elim (fun z => by rw [hs] at z; cases z) fun z => by rw [ho] at z; cases z
  have hm1 : ¬ MC am H1 l := fun z => (e1.keep.mc l z).elim hm fun q => by rw [ho] at q; cases q
  have ho1 : H1 l = some (.ins C dx fvs) := e1.keep.at_ l _ ho hm
  refine ⟨.ref l, q1, l, C, dx, fvs, rfl, ho1, oc.cl, nf f hf, by rw [← rf.length]; exact ht.1, ?_⟩
  refine ⟨am, H0, Hs0, Hs1, ts, n1, R, l, C, dx, putFT f t acc, L2.putF f v fvs, (x.trans e1).mut h0 hs1 hm1 _, (re.ext e1).mut e1.spl hm1 fun i t z => (no i t z).elim, no, h0, hs1, fun z => hm1 ((MC.mut e1.spl hm1).mp z), e0, oc, nf, upd_same, RepF.put rv (RepF.mono e1.same _ _ rf), ht.2, k⟩
theorem qn_tail [Xw] {c : Str} (hfl : ∀ C, CN.at_ c = some C → ∀ f ∈ flds, NoAttr X.K C f) (h : PSs X rest (sTT X.K flds tl)) : PSs X rest (sTI X.K c (winTail tl)) := PSs.imp h fun D σ H ⟨am, H0, Hs0, ts, n, n0, R, l, C, dx, s, s0, h0, hs0, hm0, e0, hC, oc, h, kx, k⟩ => by
  obtain ⟨Hs, x, b⟩ := s.frz
  have no : ∀ (i : Nat) (t : T), (ts.map Sl.see)[i]? ≠ some (Sl.own t) := fun i t e => by
    rw [List.getElem?_map] at e
    cases q : ts[i]? with
    | none => rw [q] at e; cases e
    | some s => rw [q] at e; cases s <;> cases e
  have hl : H l = some (.ins C dx []) := x.keep.at_ l _ h0 hm0
  have hs : Hs l = none := by
    cases q : Hs l with
    | none => rfl
    | some o => exact (x.new l o q).elim (fun z => by rw [hs0] at z; cases z) fun z => by rw [h0] at z; cases z
  have hm : ¬ MC am H l := fun z => (x.keep.mc l z).elim hm0 fun q => by rw [h0] at q; cases q
  refine ⟨am, hid H0 l, Hs0, Hs, ts.map Sl.see, n, R, l, C, dx, [], [], x.hid s0 hm0, b.re, no, if_pos rfl, hs, hm, ?_, oc, hfl C hC, hl, by simp only [RepF], h, k⟩
  rw [List.getElem?_map, e0]; rfl
theorem qn_seq [Xw] [XwI] {c : Str} (h1 : QS X st a) (h2 : PSs X rest (sTI X.K c b)) : PSs X (st :: rest) (sTI X.K c (winSeq a b)) := PSs.imp (pss_cons h1 h2) fun D σ H ⟨am, H0, Hs0, ts, n, n0, R, l, C, dx, s, s0, h0, hs0, hm0, e0, hC, oc, h, kx, k⟩ =>
  ⟨am, H0, Hs0, ts, n, _, s, h, ⟨fun σ' H' ts' n' s' h' => ⟨am, H0, Hs0, ts', n', n0, R, l, C, dx, s', s0, h0, hs0, hm0, h'.1.trans e0, hC, oc, h'.2, kx.any σ', k⟩, fun _ _ _ _ _ _ _ z => z.elim, fun _ _ _ _ _ z => z.elim, fun _ _ _ _ _ z => z.elim⟩, kx⟩
end
/-- __init__ as a def -/
theorem okI {P : Program} {w : World} {K : PySem.W.Frag} {mg : Str → Option Value} {base : Heap} {x qual c : Str} {st : Stmt} {dvs : List V} {f : Addr} {fd : FuncData} {N ps : List Str} {self : Str} {k : Nat} {F : FTI} (G : FunM K x qual st dvs f fd) (S : FnScope N (self :: ps) (defScope st))
    (hoc : ∀ C, CN.at_ c = some C → ObjC K C) (hlen : ∀ ts n R RE, F ts n R RE → ts.length = ps.length) (W : XE → WIn)
    (hbody : ∀ (cdv : Value) (A : Around) (outer : List PySem.Env) (s : Shared) (H : Hp) (E : XK) [Xw] [XwI], Takes (cxT P w K mg base N qual st f cdv A outer s H E) Xw.W → Owns (cxT P w K mg base N qual st f cdv A outer s H E) → A.guards = some [] → Room k (A.deeper (PyProof.Rows.envOfC qual (defScope st) s.heap.objs.size f cdv)) →
      PSs (cxT P w K mg base N qual st f cdv A outer s H E) (defBody st) (sTI K c (W Xw.RE)))
    (hspec : ∀ ts n R RE, F ts n R RE → ∀ l, W RE (startT N (.cst l :: ts)) n R) : FnT P w K mg base (k + 1) f fd (self :: ps) (spI K c F) := by
  refine fnTD_of G S (fun vs H Q E h => ?_) (fun cdv A outer s H vs Q E hgd hr h => ?_)
  · obtain ⟨am, H0, Hs0, ts, n, R, RE, l, C, dx, ws, rfl, hC, hl, hdx, nd, rfl, sp, re, hF, kf, kx⟩ := h
    letI : Xw := Xw.no
    rw [List.length_cons, List.length_cons, ← re.length, hlen _ _ _ _ hF]
  · obtain ⟨am, H0, Hs0, ts, n, R, RE, l, C, dx, ws, rfl, hC, hl, hdx, nd, rfl, sp, re, hF, kf, kx⟩ := h
    letI : Xw := Xw.no
    have x1 := Ext.lay1 sp hdx (HO.own l)
    have hl1 : upd H0 dx (HO.own l) l = none := by rw [upd_ne (Ne.symm nd)]; exact hl
    have x2 := Ext.lay1 x1.spl hl1 (HO.ins C dx [])
    have x12 := x1.trans x2
    have e : hid (upd (upd H0 dx (HO.own l)) l (HO.ins C dx [])) l = upd H0 dx (HO.own l) := by
      funext b
      unfold hid
      by_cases q : b = l
      · rw [if_pos q, q, hl1]
      · rw [if_neg q, upd_ne q]
    refine ⟨_, @hbody cdv A outer s _ E (xwOf E RE) xwOf_ind (takes_of rfl rfl rfl rfl) (passes_of rfl) hgd hr, am, _, Hs0, startT N (.cst l :: ts), n, n, R, l, C, dx, ⟨Hs0, Ext.refl x12.spl, start_rep (Reps.mk_cons (by simp only [Rep]) re)⟩, x12.spl, upd_same, sp.sub.free hl, mc_new x1.spl hl1, ?_, hC, hoc C hC, hspec ts n R RE hF l,
      fun z n' cls d Hs' H' hz y q => kx z n' hz cls d Hs' H' (x12.trans y) q, fun fs n' hR σ' Hs' H' fvs y h0 hm ho rf => ?_⟩
    · rfl
    · rw [e] at y
      exact kf fs n' hR Hs' H' fvs (x1.trans y) h0 hm ho rf
end TL
/-! methods and __init__ as defs; the functional layer of exceptions and own classes -/
namespace TL
open PySem PySem.Spec PyProof.Rows L2
section
variable [Mach] [CN] {P : Program} {w : World} {K : PySem.W.Frag} {mg : Str → Option Value} {base : Heap}
/-- what the written part holds of a method -/
def MethD (K : PySem.W.Frag) (c m qual : Str) (st : Stmt) (dts : List T) : Prop := ∃ C f fd dvs, CN.at_ c = some C ∧ Cls K C ∧ Meth K C m f ∧ FunM K m qual st dvs f fd ∧ ∀ am H, Reps K am H dts dvs
def InitD (K : PySem.W.Frag) (mg : Str → Option Value) (c qual : Str) (st : Stmt) (dts : List T) : Prop := ∃ C f fd dvs, CN.at_ c = some C ∧ mg c = some (.ref C) ∧ Mk K C f ∧ FunM K "__init__" qual st dvs f fd ∧ ∀ am H, Reps K am H dts dvs
theorem calM {c m qual : Str} {st : Stmt} {dts : List T} {N ps : List Str} {k : Nat} {F : FT} (D : MethD K c m qual st dts) (S : FnScope N ps (defScope st))
    (hlen : ∀ ts n R RE, F ts n R RE → ts.length = ps.length) (W : XE → WS)
    (hbody : ∀ (f : Addr) (cdv : Value) (A : Around) (outer : List PySem.Env) (s : Shared) (H : Hp) (E : XK) [Xw] [XwI], Takes (cxT P w K mg base N qual st f cdv A outer s H E) Xw.W → Owns (cxT P w K mg base N qual st f cdv A outer s H E) → A.guards = some [] → Room k (A.deeper (PyProof.Rows.envOfC qual (defScope st) s.heap.objs.size f cdv)) → QSs (cxT P w K mg base N qual st f cdv A outer s H E) (defBody st) (W Xw.RE))
    (hspec : ∀ ts n R RE, F ts n R RE → W RE { nx := fun _ n => R .non n, rt := R } (startT N ts) n) : MCal P w K mg base (k + 1) c m qual st ps dts F := by
  letI : Xw := Xw.no
  obtain ⟨C, f, fd, dvs, hC, cl, hm, G, hdt⟩ := D
  refine ⟨C, f, fd, dvs, hC, cl, hm, G, hdt, fnTD_of G S (fun vs H Q E ⟨am, Hs, ts, n, R, RE, sp, re, h, _⟩ => by rw [← re.length]; exact hlen ts n R RE h) fun cdv A outer s H vs Q E hgd hr hsp => ?_⟩
  obtain ⟨am, Hs, ts, n, R, RE, sp, re, h, kk, kx⟩ := hsp
  exact ⟨_, @hbody f cdv A outer s H E (xwOf E RE) xwOf_ind (takes_of rfl rfl rfl rfl) (passes_of rfl) hgd hr, am, H, Hs, startT N ts, n, _, ⟨Hs, Ext.refl sp, start_rep re⟩, hspec ts n R RE h,
    ⟨fun σ H' ts' n' ⟨Hs', y, b⟩ hr => kk .non n' hr .non Hs' H' y (by simp only [Rep]), fun v H' Hs' r n' y rv hr => kk r n' hr v Hs' H' y rv, fun _ _ _ _ _ z => z.elim, fun _ _ _ _ _ z => z.elim⟩, fun z n' cls d Hs' H' hz y q => kx z n' hz cls d Hs' H' y q⟩
theorem calI {c qual : Str} {st : Stmt} {dts : List T} {N ps : List Str} {self : Str} {k : Nat} {F : FTI} (D : InitD K mg c qual st dts) (S : FnScope N (self :: ps) (defScope st)) (hoc : ∀ C, CN.at_ c = some C → ObjC K C)
    (hlen : ∀ ts n R RE, F ts n R RE → ts.length = ps.length) (W : XE → WIn)
    (hbody : ∀ (f : Addr) (cdv : Value) (A : Around) (outer : List PySem.Env) (s : Shared) (H : Hp) (E : XK) [Xw] [XwI], Takes (cxT P w K mg base N qual st f cdv A outer s H E) Xw.W → Owns (cxT P w K mg base N qual st f cdv A outer s H E) → A.guards = some [] → Room k (A.deeper (PyProof.Rows.envOfC qual (defScope st) s.heap.objs.size f cdv)) → PSs (cxT P w K mg base N qual st f cdv A outer s H E) (defBody st) (sTI K c (W Xw.RE)))
    (hspec : ∀ ts n R RE, F ts n R RE → ∀ l, W RE (startT N (.cst l :: ts)) n R) : ICal P w K mg base (k + 1) c qual st (self :: ps) dts F := by
  obtain ⟨C, f, fd, dvs, hC, hm, M, G, hdt⟩ := D
  exact ⟨C, f, fd, dvs, hC, hm, M, G, hdt, okI G S hoc hlen W (fun cdv A outer s H E => hbody f cdv A outer s H E) hspec⟩
end
/-! ### the functional layer -/
def dAttr [XCl] (f : Str) : T → D T
  | .obj c fs => chk ((XCl.fam c).isSome = true ∧ XCl.exc c = false ∧ f ∈ XCl.flds c) (match fs.lookup f with
    | some t => .ok t
    | none => .bad)
  | .exc c fs => chk ((XCl.fam c).isSome = true ∧ XCl.exc c = true ∧ f ∈ XCl.flds c) (match fs.lookup f with
    | some t => .ok t
    | none => .bad)
  | _ => .bad
theorem p_attr [XCl] {f : Str} : P1 (gAttr f) (dAttr f) := fun E x n R h => by
  unfold dAttr at h
  unfold gAttr
  split at h
  · obtain ⟨⟨h1, h2, h3⟩, h4⟩ := wp_chk.mp h
    split at h4
    · rename_i t e; exact ⟨h1, h2, h3, t, e, h4⟩
    · exact h4.elim
  · obtain ⟨⟨h1, h2, h3⟩, h4⟩ := wp_chk.mp h
    split at h4
    · rename_i t e; exact ⟨h1, h2, h3, t, e, h4⟩
    · exact h4.elim
  · exact h.elim
def dIsiX [XCl] : List T → D T
  | [x, .cls c'] => chk (c' ∈ XCl.asked) (match ownF x with
    | some (_, f) => .ok (.bl (f.contains c'))
    | none => match tyName x with
      | some t => chk (t ∈ tysV) (.ok (.bl false))
      | none => .bad)
  | [x, .ty t] => match ownF x with
    | some (_, f) => chk (t ∈ XCl.tys) (.ok (.bl (f.contains (t : Str))))
    | none => dIsi [x, .ty t]
  | _ => .bad
theorem p_isiX [XCl] : PN pIsiX dIsiX := fun E xs n R h => by
  unfold dIsiX at h
  unfold pIsiX
  split at h
  · obtain ⟨h1, h2⟩ := wp_chk.mp h
    refine ⟨h1, ?_⟩
    split at h2
    · rename_i e; first | (rw [e]; exact h2) | exact h2
    · rename_i e; first | rw [e] | skip
      split at h2
      · rename_i e2; first | (dsimp only; rw [e2]; exact wp_chk.mp h2) | (rw [e2]; exact wp_chk.mp h2) | exact wp_chk.mp h2
      · exact h2.elim
  · split at h
    · rename_i e; first | (dsimp only; rw [e]; exact wp_chk.mp h) | (rw [e]; exact wp_chk.mp h) | exact wp_chk.mp h
    · rename_i e; first | (dsimp only; rw [e]; exact p_isi E _ n R h) | (rw [e]; exact p_isi E _ n R h) | exact p_isi E _ n R h
  · exact h.elim
def dMeth (c m : Str) (dts : List T) (L : List T → D T) (o : D T) (a : D (List T)) : D T := o.bind fun x => match x with
  | .obj c' fs => chk (c' = c ∧ fs.lookup m = none) (a.bind fun xs => L (x :: (xs ++ dts)))
  | _ => .bad
abbrev fti (L : List T → D (List (Str × T))) : FTI := fun ts n R E => wp E (L ts) n R
abbrev dMake (c : Str) (dts : List T) (L : List T → D (List (Str × T))) (a : D (List T)) : D T := a.bind fun xs => (L (xs ++ dts)).bind fun fs => .ok (.obj c fs)
section
variable {E : XE} {ts : Env} {fo f : WE} {fs : WA} {da d : D T} {ds : D (List T)} {c m fld : Str} {dts : List T}
theorem u_meth {L : List T → D T} (ho : RE_ E fo ts da) (ha : RA_ E fs ts ds) : RE_ E (wMeth E c m dts (ft L) fo fs) ts (dMeth c m dts L da ds) := fun n R q => ho n _ (wp_mono (wp_bind.mp q) fun x n1 q1 => by
  split at q1
  · obtain ⟨⟨h1, h2⟩, h3⟩ := wp_chk.mp q1
    exact ⟨h1, h2, ha n1 _ (wp_bind.mp h3)⟩
  · exact q1.elim)
theorem u_make {L : List T → D (List (Str × T))} (ha : RA_ E fs ts ds) : RE_ E (wMake E c dts (fti L) fs) ts (dMake c dts L ds) := fun n R q => ha n _ (wp_mono (wp_bind.mp q) fun xs n1 q1 => wp_bind.mp q1)
/-! raise -/
abbrev dRaise {α : Type} (c fld : Str) (d : D T) : D α := d.bind fun t => .ex ⟨c, [(fld, t)]⟩
theorem rr_raise (h : RE_ E f ts d) : RR E (wsRaise E c fld f) ts (dRaise c fld d) := fun n W q => h n _ (wp_bind.mp q)
theorem rn_raise {γ J : Type} {o : γ → J → Env} (h : RE_ E f ts d) : RN E (wsRaise E c fld f) ts (dRaise c fld d : D γ) o := fun n W q => h n _ (wp_bind.mp q)
theorem rm_raise {γ J : Type} {o : γ → J → Env} (h : RE_ E f ts d) : RM E (wsRaise E c fld f) ts (dRaise c fld d : D (Out γ)) o := fun n W q => h n _ (wp_bind.mp q)
end
/-! try -/
def tryD {α : Type} : D α → (Exn → D α) → D α
  | .ok a, _ => .ok a
  | .bad, _ => .bad
  | .ex x, h => h x
  | .draw m k, h => .draw m fun r => tryD (k r) h
theorem wp_try {α : Type} {E : XE} {h : Exn → D α} {d : D α} : ∀ {n : Nat} {R : α → Nat → Prop}, wp E (tryD d h) n R ↔ wp (fun x n' => wp E (h x) n' R) d n R := by
  induction d with
  | ok a => exact fun {n R} => Iff.rfl
  | bad => exact fun {n R} => Iff.rfl
  | ex x => exact fun {n R} => Iff.rfl
  | draw m k ih => exact fun {n R} => ⟨fun h => ⟨h.1, fun r hr => (ih r).mp (h.2 r hr)⟩, fun h => ⟨h.1, fun r hr => (ih r).mpr (h.2 r hr)⟩⟩
theorem wp_mono' {α : Type} {E E' : XE} {d : D α} : ∀ {n : Nat} {R : α → Nat → Prop}, wp E d n R → (∀ x n', E x n' → E' x n') → wp E' d n R := by
  induction d with
  | ok a => exact fun h _ => h
  | bad => exact fun h _ => h
  | ex x => exact fun h k => k x _ h
  | draw m k ih => exact fun h kk => ⟨h.1, fun r hr => ih r (h.2 r hr) kk⟩
/-- the clauses: the first that covers -/
def hD [XCl] {α : Type} : List (List Str × (Exn → D α)) → Exn → D α
  | [], x => .ex x
  | (cs, k) :: r, x => match XCl.fam x.cls with
    | none => .bad
    | some f => if cs.any (f.contains ·) = true then (k x).nox else hD r x
def setN (o : Option Nat) (ts : Env) : Env := match o with
  | none => ts
  | some i => ts.set i .no
theorem endsT_nx (o : Option Nat) (W : WEnds) (ts : Env) (n : Nat) : (endsT o W).nx ts n = W.nx (setN o ts) n := by cases o <;> rfl
theorem endsT_rt (o : Option Nat) (W : WEnds) : (endsT o W).rt = W.rt := by cases o <;> rfl
section
variable [XCl] {E : XE} {ts : Env} {w : XE → WS} {γ J : Type} {o : γ → J → Env}
/-- the clauses' refinement: goes on or returns -/
inductive HRM {γ J : Type} (ts : Env) (o : γ → J → Env) : List TCl → List (List Str × (Exn → D (Out γ))) → Prop
  | nil : HRM ts o [] []
  | cons {cs : List Str} {nm : Option Nat} {ws : WS} {k : Exn → D (Out γ)} {hs ks} {oc : Exn → γ → J → Env} (ho : ∀ x g j, setN nm (oc x g j) = o g j) (h : ∀ x : Exn, RM noX ws (setX nm x ts) (k x) (oc x)) (r : HRM ts o hs ks) : HRM ts o (⟨cs, nm, ws⟩ :: hs) ((cs, k) :: ks)
theorem hrm_ok {W : WEnds} {hs : List TCl} {ks : List (List Str × (Exn → D (Out γ)))} (h : HRM ts o hs ks) (x : Exn) (n : Nat) (q : wp E (hD ks x) n fun y n' => match y with | .next g => ∀ j, W.nx (o g j) n' | .ret t => W.rt t n') : hW E W ts hs x n := by
  induction h with
  | nil => exact q
  | @cons cs nm ws k hs ks oc ho h r ih =>
    unfold hD at q
    unfold hW
    split at q
    · exact q.elim
    · rename_i f hf
      first | rw [hf] | skip
      try dsimp only
      split at q
      · rename_i hc
        rw [if_pos hc]
        refine h x n _ (wp_nox (wp_mono q fun y n' z => ?_))
        cases y with
        | next g => exact fun j => by rw [endsT_nx, ho]; exact z j
        | ret t => rw [endsT_rt]; exact z
      · rename_i hc
        rw [if_neg hc]
        exact ih q
theorem rm_try {d : D (Out γ)} {hs : List TCl} {ks : List (List Str × (Exn → D (Out γ)))} (hb : ∀ RE, RM RE (w RE) (ts.map Sl.see) d o) (hh : HRM (ts.map Sl.see) o hs ks) : RM E (wsTry E w hs) ts (tryD d (hD ks)) o := fun n W q =>
  hb _ n W (wp_mono' (wp_try.mp q) fun x n' z => hrm_ok hh x n' z)
/-- the clauses' refinement: goes on -/
inductive HRN {γ J : Type} (ts : Env) (o : γ → J → Env) : List TCl → List (List Str × (Exn → D γ)) → Prop
  | nil : HRN ts o [] []
  | cons {cs : List Str} {nm : Option Nat} {ws : WS} {k : Exn → D γ} {hs ks} {oc : Exn → γ → J → Env} (ho : ∀ x g j, setN nm (oc x g j) = o g j) (h : ∀ x : Exn, RN noX ws (setX nm x ts) (k x) (oc x)) (r : HRN ts o hs ks) : HRN ts o (⟨cs, nm, ws⟩ :: hs) ((cs, k) :: ks)
theorem hrn_ok {W : WEnds} {hs : List TCl} {ks : List (List Str × (Exn → D γ))} (h : HRN ts o hs ks) (x : Exn) (n : Nat) (q : wp E (hD ks x) n fun g n' => ∀ j, W.nx (o g j) n') : hW E W ts hs x n := by
  induction h with
  | nil => exact q
  | @cons cs nm ws k hs ks oc ho h r ih =>
    unfold hD at q
    unfold hW
    split at q
    · exact q.elim
    · rename_i f hf
      first | rw [hf] | skip
      try dsimp only
      split at q
      · rename_i hc
        rw [if_pos hc]
        exact h x n _ (wp_nox (wp_mono q fun g n' z j => by rw [endsT_nx, ho]; exact z j))
      · rename_i hc
        rw [if_neg hc]
        exact ih q
theorem rn_try {d : D γ} {hs : List TCl} {ks : List (List Str × (Exn → D γ))} (hb : ∀ RE, RN RE (w RE) (ts.map Sl.see) d o) (hh : HRN (ts.map Sl.see) o hs ks) : RN E (wsTry E w hs) ts (tryD d (hD ks)) o := fun n W q =>
  hb _ n W (wp_mono' (wp_try.mp q) fun x n' z => hrn_ok hh x n' z)
theorem rm_nox {a : WS} {d : D (Out γ)} (h : RM noX a ts d o) : RM E a ts d.nox o := fun n W q => h n W (wp_nox q)
theorem rn_nox {a : WS} {d : D γ} (h : RN noX a ts d o) : RN E a ts d.nox o := fun n W q => h n W (wp_nox q)
theorem rm_ifR {t : WT} {a b : WS} {dt : D Bool} {da : D T} {db : D (Out γ)} (ht : RT_ E t ts dt) (ha : RR E a ts da) (hb : RM E b ts db o) : RM E (wsIfR t a b) ts (dIf dt (dRet da) db) o := fun n W q => ht n _ (wp_mono (wp_bind.mp q) fun c n1 q1 => by
  cases c
  · rw [if_neg (by decide)] at q1; rw [if_neg (by decide)]; exact hb n1 W q1
  · rw [if_pos rfl] at q1; rw [if_pos rfl]; exact ha n1 _ (wp_bind.mp q1))
theorem rn_ifR {t : WT} {a b : WS} {dt : D Bool} {c fld : Str} {f : WE} {da : D T} {db : D γ} (ht : RT_ E t ts dt) (ha : RE_ E f ts da) (hb : RN E b ts db o) : RN E (wsIfR t (wsRaise E c fld f) b) ts (dIf dt (dRaise c fld da) db) o := fun n W q => ht n _ (wp_mono (wp_bind.mp q) fun c n1 q1 => by
  cases c
  · rw [if_neg (by decide)] at q1; rw [if_neg (by decide)]; exact hb n1 W q1
  · rw [if_pos rfl] at q1; rw [if_pos rfl]; exact ha n1 _ (wp_bind.mp q1))
end
end TL
/-! while, stars; __init__ in the functional layer -/
namespace TL
open PySem PySem.Spec PyProof.Rows L2
/-! ### while -/
def wWhile (t : WT) (b : WS) (W : WEnds) : Nat → Env → Nat → Prop
  | 0, _, _ => False
  | k + 1, ts, n => t ts n fun c n1 => if c = true then b { W with nx := wWhile t b W k, ct := wWhile t b W k, bk := W.nx } ts n1 else W.nx ts n1
def wsWhile (t : WT) (b : WS) : WS := fun W ts n => ∃ k, wWhile t b W k ts n
section
variable [Mach] [CN] [Xw] {X : Cx} {c : Expr} {body : List Stmt} {t : WT} {wb : WS} {pos : Pos}
theorem qs_while [XwI] (hp : PassesOwn (model X.prog X.w) X.A X.env X.xe) (hc : QT X c t) (hb : QSs X body wb) : QS X (.While c body [] pos) (wsWhile t wb) := PS.imp (ps_while hp hc hb) fun D σ H ⟨am, H0, Hs0, ts, n, W, s, ⟨k0, h⟩, k, kx⟩ => by
  refine ⟨fun m σ' H' => ∃ ts' n', ST X.K am H0 Hs0 σ' H' ts' n' ∧ wWhile t wb W m ts' n', ⟨k0, ts, n, s, h⟩, fun m σ' H' ⟨ts', n', s', h'⟩ => ?_⟩
  cases m with
  | zero => exact h'.elim
  | succ m =>
    refine tTT_at (kx.any σ') s' h' fun c n1 hc H1 s1 => ?_
    cases c with
    | true =>
      refine iteT ⟨fun σ2 H2 => ∃ ts2 n2, ST X.K am H0 Hs0 σ2 H2 ts2 n2 ∧ wWhile t wb W m ts2 n2, fun σ2 H2 q => ⟨m, Nat.lt_succ_self _, q⟩, ?_⟩
      rw [if_pos rfl] at hc
      exact ⟨am, H0, Hs0, ts', n1, { W with nx := wWhile t wb W m, ct := wWhile t wb W m, bk := W.nx }, s1, hc, ⟨fun σ2 H2 ts2 n2 s2 h2 => ⟨ts2, n2, s2, h2⟩, k.rt, fun σ2 H2 ts2 n2 s2 h2 => k.nx σ2 H2 ts2 n2 s2 h2, fun σ2 H2 ts2 n2 s2 h2 => ⟨ts2, n2, s2, h2⟩⟩, kx.any σ'⟩
    | false =>
      rw [if_neg (by decide)] at hc
      exact iteF (k.nx σ' H1 ts' n1 s1 hc)
end
def whileD {γ : Type} (t : γ → D Bool) (b : γ → D γ) : Nat → γ → D γ
  | 0, _ => .bad
  | k + 1, g => (t g).bind fun c => if c = true then (b g).bind (whileD t b k) else .ok g
def whileM {γ : Type} (t : γ → D Bool) (b : γ → D (Out γ)) : Nat → γ → D (Out γ)
  | 0, _ => .bad
  | k + 1, g => (t g).bind fun c => if c = true then (b g).bind (seqM (whileM t b k)) else .ok (.next g)
section
variable {E : XE} {ts : Env} {t : WT} {wb : WS} {γ J : Type} {o : γ → J → Env} {dt : γ → D Bool}
theorem rn_whileL {db : γ → D γ} (ht : ∀ c j, RT_ E t (o c j) (dt c)) (hb : ∀ c j, RN E wb (o c j) (db c) o) {W : WEnds} : ∀ (k : Nat) (c : γ) (j : J) (n : Nat), wp E (whileD dt db k c) n (fun g n' => ∀ j, W.nx (o g j) n') → wWhile t wb W k (o c j) n
  | 0, c, j, n, q => q.elim
  | k + 1, c, j, n, q => ht c j n _ (wp_mono (wp_bind.mp q) fun b n1 q1 => by
      cases b with
      | true =>
        rw [if_pos rfl] at q1 ⊢
        exact hb c j n1 { W with nx := wWhile t wb W k, ct := wWhile t wb W k, bk := W.nx } (wp_mono (wp_bind.mp q1) fun g n2 q2 j' => rn_whileL ht hb k g j' n2 q2)
      | false =>
        rw [if_neg (by decide)] at q1 ⊢
        exact q1 j)
theorem rn_while (k : Nat) {db : γ → D γ} (c0 : γ) (j0 : J) (h0 : ts = o c0 j0) (ht : ∀ c j, RT_ E t (o c j) (dt c)) (hb : ∀ c j, RN E wb (o c j) (db c) o) : RN E (wsWhile t wb) ts (whileD dt db k c0) o := fun n W q => by
  rw [h0]; exact ⟨k, rn_whileL ht hb k c0 j0 n q⟩
theorem rm_whileL {db : γ → D (Out γ)} (ht : ∀ c j, RT_ E t (o c j) (dt c)) (hb : ∀ c j, RM E wb (o c j) (db c) o) {W : WEnds} : ∀ (k : Nat) (c : γ) (j : J) (n : Nat), wp E (whileM dt db k c) n (fun x n' => match x with | .next g => ∀ j, W.nx (o g j) n' | .ret t => W.rt t n') → wWhile t wb W k (o c j) n
  | 0, c, j, n, q => q.elim
  | k + 1, c, j, n, q => ht c j n _ (wp_mono (wp_bind.mp q) fun b n1 q1 => by
      cases b with
      | true =>
        rw [if_pos rfl] at q1 ⊢
        refine hb c j n1 { W with nx := wWhile t wb W k, ct := wWhile t wb W k, bk := W.nx } (wp_mono (wp_bind.mp q1) fun x n2 q2 => ?_)
        cases x with
        | next g => exact fun j' => rm_whileL ht hb k g j' n2 q2
        | ret t => exact q2
      | false =>
        rw [if_neg (by decide)] at q1 ⊢
        exact q1 j)
theorem rm_while (k : Nat) {db : γ → D (Out γ)} (c0 : γ) (j0 : J) (h0 : ts = o c0 j0) (ht : ∀ c j, RT_ E t (o c j) (dt c)) (hb : ∀ c j, RM E wb (o c j) (db c) o) : RM E (wsWhile t wb) ts (whileM dt db k c0) o := fun n W q => by
  rw [h0]; exact ⟨k, rm_whileL ht hb k c0 j0 n q⟩
end
/-! ### stars -/
def wStar (fe : WE) (fs : WA) : WA := fun ts n R => fe ts n fun x n1 => match x with
  | .lst xs | .tup xs => fs ts n1 fun ys n2 => R (xs ++ ys) n2
  | _ => False
section
variable [Mach] [CN] [Xw] {X : Cx} {e : Expr} {es : List Expr} {f : WE} {fs : WA} {p : Pos}
theorem qa_star (he : QE X e f) (hr : QA X es fs) (hs : starEach (.Starred e p :: es) X.env = (true, eval e X.env) :: starEach es X.env := by rfl) : QA X (.Starred e p :: es) (wStar f fs) := PA.imp (StX.pa_star he hr hs) fun σ H Q ⟨am, Hs, ts, n, R, sp, re, h, k⟩ => by
  refine ⟨am, Hs, ts, n, _, sp, re, h, fun x n1 hx vx Hs1 H1 e1 rx => ?_⟩
  have go : ∀ {xs : List T} {vs : List V}, Reps X.K am Hs1 xs vs → fs ts n1 (fun ys n2 => R (xs ++ ys) n2) → tTA X.K fs σ H1 fun ys H2 => Q (vs ++ ys) H2 := fun {xs vs} r h' => ⟨am, Hs1, ts, n1, _, e1.spl, re.ext e1, h', fun ys n2 hy vy Hs2 H2 e2 ry => k _ n2 hy _ Hs2 H2 (e1.trans e2) ((Reps.mono e2.same _ _ r).append ry)⟩
  split at hx
  · simp only [Rep] at rx
    obtain ⟨a, vs, rfl, h3, h4⟩ := rx
    exact ⟨a, vs, rfl, .inr (SqL.of (e1.spl.sub _ _ h3)), go h4 hx⟩
  · simp only [Rep] at rx
    obtain ⟨a, vs, rfl, h3, h4⟩ := rx
    exact ⟨a, vs, rfl, .inl (same_sqT e1.spl.sub h3), go h4 hx⟩
  · exact hx.elim
end
def starD : T → D (List T)
  | .lst xs => .ok xs
  | .tup xs => .ok xs
  | _ => .bad
abbrev dStar (a : D T) (b : D (List T)) : D (List T) := a.bind fun x => (starD x).bind fun xs => b.bind fun ys => .ok (xs ++ ys)
theorem ua_star {E : XE} {ts : Env} {fa : WE} {fs : WA} {da : D T} {ds : D (List T)} (ha : RE_ E fa ts da) (hb : RA_ E fs ts ds) : RA_ E (wStar fa fs) ts (dStar da ds) := fun n R q =>
  ha n _ (wp_mono (wp_bind.mp q) fun x n1 q1 => by
    cases x with
    | lst xs => exact hb n1 _ (wp_bind.mp (show wp E (ds.bind fun ys => D.ok (xs ++ ys)) n1 R from q1))
    | tup xs => exact hb n1 _ (wp_bind.mp (show wp E (ds.bind fun ys => D.ok (xs ++ ys)) n1 R from q1))
    | _ => exact q1.elim)
/-! ### __init__ -/
def RIn (E : XE) (wi : WIn) (ts : Env) (d : D (List (Str × T))) : Prop := ∀ n R, wp E d n R → wi ts n R
def RTl (E : XE) (tl : WTl) (acc : List (Str × T)) (ts : Env) (d : D (List (Str × T))) : Prop := ∀ n R, wp E d n R → tl acc ts n R
section
variable {E : XE} {ts : Env} {a : WS} {b : WIn} {tl : WTl} {f : WE} {da : D T} {γ J : Type} {o : γ → J → Env} {acc : List (Str × T)} {fld : Str}
theorem rtl_nil : RTl E wtNil acc ts (.ok acc) := fun n R q => q
theorem rtl_cons {k : T → D (List (Str × T))} (h : RE_ noX f ts da) (hr : ∀ t, RTl E tl (putFT fld t acc) ts (k t)) : RTl E (wtCons fld f tl) acc ts (da.nox.bind fun t => chk (acc.length < 1000) (k t)) := fun n R q =>
  h n _ (wp_mono (wp_nox (wp_bind.mp q)) fun t n1 q1 => ⟨(wp_chk.mp q1).1, hr t n1 R (wp_chk.mp q1).2⟩)
theorem rin_tail {d : D (List (Str × T))} (h : RTl E tl [] (ts.map Sl.see) d) : RIn E (winTail tl) ts d := fun n R q => h n R q
theorem rin_seq {d : D γ} {k : γ → D (List (Str × T))} (h : RN E a ts d o) (h0 : ∀ g j, (o g j)[0]? = ts[0]?) (hb : ∀ g j, RIn E b (o g j) (k g)) : RIn E (winSeq a b) ts (d.bind k) := fun n R q =>
  h n _ (wp_mono (wp_bind.mp q) fun g n1 q1 j => ⟨h0 g j, hb g j n1 R q1⟩)
end
end TL
/-! the head's facts put together -/
namespace TL
open PySem PySem.Calls PySem.Spec PyProof.Rows L2 PySem.W
section
variable {K : PySem.W.Frag} {C F D : Addr} {cd cdF : ClassData} {bmB : List Value} {newId : String} {o : Obj} {v : Value} {t : Value} {b : Bool}
def excInitO (C : Addr) (o : Obj) (bmB : List Value) (newId : String) : Bool := match o with
  | ⟨.type "type", _, .cls cd, sl⟩ => (match cd.mro, sl.toList with
    | .ref C' :: bm, [_, _, _, _, some (.builtin n), _] => C' == C && n == newId && !cd.hasDel && excTail bmB bm
    | _, _ => false)
  | _ => false
theorem excInit_mk (l : K.lookup C = some o) (q : excInitO C o bmB newId = true) : excInitIn K C bmB newId = true := by
  unfold excInitIn
  rw [l]
  unfold excInitO at q
  split at q
  · exact q
  · cases q
def overO (C : Addr) (cd : ClassData) (bmB : List Value) : Bool := match cd.mro with
  | .ref C' :: bm => C' == C && excTail bmB bm
  | _ => false
theorem excOver_mk (c : clsIn K C = some cd) (q : overO C cd bmB = true) : excOver K C bmB = true := by
  unfold excOver
  rw [c]
  exact q
def overF (C : Addr) (cd cdF : ClassData) : Bool := match cd.mro with
  | .ref C' :: bm => C' == C && bm == cdF.mro
  | _ => false
theorem superIn_mk {x : Str} (c : clsIn K C = some cd) (cF : clsIn K F = some cdF) (q : overF C cd cdF = true) (f : findIn K (.ref F) x = some (some v)) : ks_superIn K C C x = some (some v) := by
  unfold ks_superIn
  rw [c]
  show alongIn K x ((cd.mro.dropWhile (· != .ref C)).drop 1) = _
  unfold overF at q
  split at q
  · rename_i C' bm e
    obtain ⟨q1, q2⟩ := Bool.and_eq_true_iff.mp q
    have q1 := beq_iff_eq.mp q1
    have q2 := beq_iff_eq.mp q2
    subst q1 q2
    rw [e]
    have : (List.dropWhile (fun x => x != Value.ref C') (Value.ref C' :: cdF.mro)) = Value.ref C' :: cdF.mro := by
      rw [List.dropWhile_cons_of_neg]
      simp
    rw [this]
    show alongIn K x cdF.mro = _
    unfold findIn at f
    unfold clsIn at cF
    split at cF
    · rename_i a b' cd' sl h
      cases cF
      dsimp only at f
      rw [h] at f
      exact f
    · cases cF
  · cases q
theorem kit_ref (hdct : hasDictIn K D = true) (ht : typeIn K (.ref D) = some (.type "type")) (own : mroIn K D (.ref D) = some true) (h : subIn K t (.ref D) = some b) : kitOne K t (.ref D) = some b := by
  unfold kitOne
  by_cases e : (t == .ref D) = true
  · rw [if_pos e]
    have e := beq_iff_eq.mp e
    subst e
    exact own.symm.trans h
  · rw [if_neg e]
    obtain ⟨cd, hc, _⟩ := any_some hdct
    unfold kitCls
    dsimp only
    rw [if_pos (by rw [hc, ht] <;> rfl)]
    exact h
theorem kit_typ {T : String} (hm : kitMeta T = true) (h : subIn K (.ref C) (.type T) = some b) : kitOne K (.ref C) (.type T) = some b := by
  unfold kitOne kitCls
  rw [if_neg (by intro z; cases beq_iff_eq.mp z)]
  dsimp only
  rw [if_pos hm]
  exact h
/-- what an except clause needs of its class -/
structure HdC (K : PySem.W.Frag) (D : Addr) : Prop where
  h1 : subIn K (.ref D) (.type "BaseException") = some true
  hd : hasDictIn K D = true
  ht : typeIn K (.ref D) = some (.type "type")
theorem exm_any1 {cls : Value} {b : Bool} (h : HdC K D) (s : subIn K cls (.ref D) = some b) : exmAny K cls [.ref D] = some (b || false) := by
  unfold exmAny
  rw [exm_ref h.h1 h.hd h.ht s]; rfl
theorem exm_anyC {cls : Value} {b c : Bool} {r : List Value} (h : HdC K D) (s : subIn K cls (.ref D) = some b) (e : exmAny K cls r = some c) : exmAny K cls (.ref D :: r) = some (b || c) := by
  unfold exmAny
  rw [exm_ref h.h1 h.hd h.ht s, e]
theorem exm_any0 {cls : Value} : exmAny K cls [] = some false := rfl
end
/-- an own exception, from what the head finds -/
theorem exk_mk {P : Program} {K : PySem.W.Frag} {C F fI cda cc : Addr} {st : Stmt} {qual fld : Str} {B newId i : String} {bmB : List Value} {oC : Obj} {cd cdF : ClassData} {od an cdd cld : Option Addr} {kV doc pm ct ccl cl : Value} {osl ccs csl : Array (Option Value)} {vs : Array Value} {file : Str} {tf : Tok}
    (FB : ExcBaseFacts B newId i bmB) (KF : KxsFacts B i) (SF : StoreFacts B bmB "object.__setattr__" "object") (lC : K.lookup C = some oC) (qC : excInitO C oC bmB newId = true) (cC : clsIn K C = some cd) (qO : overO C cd bmB = true) (hD : cd.hasDict = true) (cF : clsIn K F = some cdF) (qF : overF C cd cdF = true)
    (iF : findIn K (.ref F) "__init__" = some (some (.builtin i))) (sB : subIn K (.ref C) (.type B) = some true) (hi : findIn K (.ref C) "__init__" = some (some (.ref fI)))
    (hf : K.lookup fI = some ⟨.type "function", od, .func (ksFn "__init__" qual (defArgs st) (defBody st) (defScope st) .none kV doc pm an (.ref cda) ct cc), osl⟩) (hcd : codeIn K (.ref cda) qual = true) (hcda : K.lookup cda = some ⟨ccl, cdd, .fields vs, ccs⟩) (hvs : vs[2]? = some (.str file tf)) (hfile : ((P.main.file : Str) == file) = true)
    (hcc : K.lookup cc = some ⟨cl, cld, .cell (some (.ref C)), csl⟩) (sa : findIn K (.ref C) "__setattr__" = some (some (.builtin "object.__setattr__"))) (tk : takerIn K C fld = some none) (opq : nsIn K cStatics "thirdparty.any" = some none) (sup : nsIn K mainGlobals "super" = some none)
    (exc : subIn K (.ref C) (.type "BaseException") = some true) (typ : typeIn K (.ref C) = some (.type "type")) (kep : keepIn K (.ref C) = true) (own : mroIn K C (.ref C) = some true) : ExK P K C st qual fld where
  base := ⟨B, newId, i, bmB, FB, KF, SF, excInit_mk lC qC, excOver_mk cC qO, superIn_mk cC cF qF iF, sB⟩
  fn := ⟨fI, cda, cc, od, an, cdd, cld, kV, doc, pm, ct, ccl, cl, osl, ccs, csl, vs, file, tf, hi, hf, hcd, hcda, hvs, hfile, hcc⟩
  cls := ⟨cd, cC, hD⟩
  sa := sa
  tk := tk
  opq := opq
  sup := sup
  exc := exc
  typ := typ
  kep := kep
  own := own
/-! ### tables of names -/
def AllL {α : Type} (Q : α → Prop) : List α → Prop
  | [] => True
  | p :: r => Q p ∧ AllL Q r
theorem AllL.mem {α : Type} {Q : α → Prop} : ∀ {l : List α}, AllL Q l → ∀ p ∈ l, Q p
  | [], _, p, h => by cases h
  | a :: r, q, p, h => by
    rcases List.mem_cons.mp h with e | h
    · rw [e]; exact q.1
    · exact AllL.mem q.2 p h
theorem look_mem {β : Type} {c : Str} {f : β} : ∀ {l : List (Str × β)}, l.lookup c = some f → (c, f) ∈ l
  | [], h => by cases h
  | (d, g) :: r, h => by
    by_cases e : c = d
    · subst e
      rw [List.lookup_cons, beq_self_eq_true] at h
      cases h
      exact List.mem_cons_self ..
    · rw [List.lookup_cons, beq_eq_false_iff_ne.mpr e] at h
      exact List.mem_cons_of_mem _ (look_mem h)
theorem AllL.look {β : Type} {Q : Str × β → Prop} {l : List (Str × β)} (h : AllL Q l) {c : Str} {f : β} (e : l.lookup c = some f) : Q (c, f) := h.mem _ (look_mem e)
section
variable [CN] [XCl] {K : PySem.W.Frag}
/-- a clause's classes -/
def HdV (K : PySem.W.Frag) (cs : List Str) (vs : List Value) : Prop := ∀ cls f, XCl.fam cls = some f → ∃ C, CN.at_ cls = some C ∧ PySem.W.exmAny K (.ref C) vs = some (cs.any (f.contains ·))
end
end TL
/-! == and != of own objects whose class has its own == -/
namespace TL
open PySem PySem.Spec PyProof.Rows L2
section
variable [Mach] [CN]
/-- the class c is not asked by way of y first -/
def isExcT : T → Bool
  | .exc _ _ => true
  | _ => false
def nfT [XCl] (y : T) (c : Str) : Bool := XCl.asked.contains c && (!isExcT y && match ownF y with
  | some (c', f) => c' == c || !f.contains c
  | none => match tyName y with
    | some t => tysV.contains t
    | none => false)
abbrev gEqO [XCl] (l : List (Str × FT)) : G2 := fun x y R => match x with
  | .obj c _ => match l.lookup c with
    | some F => nfT y c = true ∧ ∀ n, F [x, y] n (fun t n' => n' = n ∧ ∃ b, t = .bl b ∧ R (.bl b)) (fun _ _ => False)
    | none => False
  | _ => pEqB id x y R
abbrev gNeO (l : List (Str × FT)) : G2 := fun x y R => match x with
  | .obj c _ => match l.lookup c with
    | some F => (match y with
      | .obj c' _ => c' = c
      | _ => False) ∧ ∀ n, F [x, y] n (fun t n' => n' = n ∧ ∃ b, t = .bl b ∧ R (.bl (!b))) (fun _ _ => False)
    | none => False
  | _ => pEqB not x y R
/-! what the written part holds of != -/
def strKeysB (es : Array DictEntry) : Bool := es.toList.all fun e => match e.key with
  | .str _ _ => true
  | _ => false
def nsOf (o : Obj) : Addr := match o.data with
  | .cls cd => cd.ns
  | _ => 0
def neO (C f N : Addr) (oC oN : Obj) : Bool := match oC with
  | ⟨.type "type", _, .cls cd, sl⟩ => (match cd.mro, sl.toList, oN.data with
    | [.ref C', .type o], [_, _, _, _, some (.builtin _), _], .dict es _ => C' == C && (o == "object" && (!cd.hasDel && (cd.ns == N && (strKeysB es && ((match nsFind es "__eq__" with
      | some (.ref g) => g == f
      | _ => false) && (nsFind es "__ne__").isNone)))))
    | _, _, _ => false)
  | _ => false
structure NeC (K : PySem.W.Frag) (C f : Addr) : Prop where
  ex : ∃ (N : Addr) (oC oN : Obj), K.lookup C = some oC ∧ K.lookup N = some oN ∧ neO C f N oC oN = true
  fn : PySem.W.isFn K (.ref f) = true
theorem eq_object : ∃ y, typeLookup (.type "object") ("__eq__" : Str) = pure y := ⟨_, rfl⟩
theorem ownNe_of {K : PySem.W.Frag} {h : Heap} {x C f : Addr} {ox : Obj} {od : Option Obj} (X : K.In h) (I : PySem.W.InstAt h x ox C od) (N : NeC K C f) : h.OwnEqNoNe x C f "object" [.type "object"] := by
  obtain ⟨⟨N, oC, oN, lC, lN, q⟩, hf⟩ := N
  obtain ⟨y, hy⟩ := eq_object
  unfold neO at q
  split at q
  · rename_i dd cd sl
    split at q
    · rename_i C' o k0 k1 k2 k3 nid k5 es ep hm hs hd
      simp only [Bool.and_eq_true, beq_iff_eq, Bool.not_eq_true', Option.isNone_iff_eq_none] at q
      obtain ⟨rfl, rfl, hdel, rfl, hk, heq, hne⟩ := q
      obtain ⟨nm, bs, mro, ns, qn, hdct, sn, sub, ab, col, del⟩ := cd
      dsimp only at hm hdel lN
      subst hm hdel
      have hsl : sl = #[k0, k1, k2, k3, some (.builtin nid), k5] := by
        obtain ⟨l⟩ := sl
        simp only at hs
        rw [hs]
      subst hsl
      have hsk : StrKeys es := fun e he => by
        have := List.all_eq_true.mp hk e (Array.mem_toList_iff.mpr he)
        split at this
        · rename_i n t q; exact ⟨n, t, q⟩
        · cases this
      have he : nsFind es "__eq__" = some (.ref f) := by
        split at heq
        · rename_i g q; rw [q, beq_iff_eq.mp heq]
        · cases heq
      obtain ⟨of, hof, hofc⟩ : ∃ of, K.lookup f = some of ∧ of.cls = .type "function" := by
        unfold PySem.W.isFn PySem.W.typeIn at hf
        have hf := beq_iff_eq.mp hf
        dsimp only at hf
        cases e : K.lookup f with
        | none => rw [e] at hf; cases hf
        | some o => rw [e] at hf; exact ⟨o, rfl, Option.some.inj hf⟩
      exact ⟨ox, of, nm, qn, ns, bs, hdct, sn, sub, ab, col, dd, k0, k1, k2, k3, k5, nid, fun n => nsFind es n, y, I.1, I.2, X _ _ lC, ⟨oN, es, ep, X _ _ lN, hd, hsk, fun _ => rfl⟩, he, X _ _ hof, hofc, PySem.F.mro_object, hy, hne⟩
    · cases q
  · cases q
section
variable [Xw] {X : Cx} {j k : Nat}
/-- the classes' own == -/
def EqM (X : Cx) (j : Nat) (l : List (Str × FT)) : Prop := ∀ c F, l.lookup c = some F → ∃ C f fd ps k, CN.at_ c = some C ∧ Meth X.K C "__eq__" f ∧ Binds X.K fd ps [] ∧ FnT X.prog X.w X.K X.mg X.base k f fd ps (spT X.K F) ∧ k + 1 ≤ j
theorem eqM_nil : EqM X j [] := fun c F h => by cases h
theorem eqM_cons {c qual : Str} {st : Stmt} {ps : List Str} {dts : List T} {F : FT} {l : List (Str × FT)} (M : MCal X.prog X.w X.K X.mg X.base k c "__eq__" qual st ps dts F) (B : BindOk "__eq__" qual st ps 0 0) (hd : dts = []) (hj : k + 1 ≤ j) (r : EqM X j l) : EqM X j ((c, F) :: l) := fun c' F' h => by
  by_cases e : c' = c
  · subst e
    rw [List.lookup_cons, beq_self_eq_true] at h
    cases h
    obtain ⟨C, f, fd, dvs, hC, cl, hm, fm, hdt, G⟩ := M
    subst hd
    have hl : dvs.length = 0 := (hdt none (fun _ => none)).length.symm
    have hl := List.eq_nil_of_length_eq_zero hl
    subst hl
    obtain ⟨ds, hds, hb⟩ := B _ [] f fd fm rfl
    cases hds
    exact ⟨C, f, fd, ps, k, hC, hm, hb, G, hj⟩
  · rw [List.lookup_cons, beq_eq_false_iff_ne.mpr e] at h
    exact r c' F' h
/-- a call below the running body -/
theorem run_fnTA {A : Around} {pins : List (Addr × Obj)} {σ : L2.St} {H : Hp} {s : Shared} {Q : VK} {us : List Value} {vs : List V} {W : WX} {f : Addr} {fd : FuncData} {ps : List Str} {sp : Sp} (fr : A.frames = X.A.frames) (G : FnT X.prog X.w X.K X.mg X.base k f fd ps sp) (hg : A.guards = some []) (hr : Room k A) (hb : Binds X.K fd ps [])
    (tk : Takes X W) (I : Inv X pins σ H s) (r : Vals vs us) (h : sp vs H Q (fun cls d H' => W cls d σ H')) : wpAny (model X.prog X.w) A (call (.ref f) us) (EP X pins σ Q) X.xe s := by
  have e0 : Env0 X.prog X.w X.K X.mg X.base A X.stack s H := by
    have e := I.env0
    exact ⟨by rw [fr]; exact e.frames, e.mod, e.bs, e.bsz, e.funs, e.frf, e.hok, e.bare⟩
  have hl : us.length = ps.length := by rw [← r.length]; exact G.len _ _ _ _ h
  refine wpAny_call (codeAny_mono (G.run A X.stack s H ⟨us, []⟩ us vs Q _ hg hr e0 (by
    have := hb s us I.kIn (by simpa using hl)
    simpa using this) r h) fun z s' hq => ?_)
  cases z with
  | error e => exact tk e s' (XE.of_call I (fun _ _ _ h => h) hq)
  | ok fl =>
    cases fl with
    | ret u => exact I.after hq
    | _ => exact False.elim hq
def rEqM (X : Cx) (j : Nat) (f : Bool → Bool) (ne : Bool) : R2 := fun vx vy H Q => ∃ (a C dx : Addr) (fs : List (Str × V)) (fe : Addr) (fd : FuncData) (ps : List Str) (k : Nat) (sp : Sp), vx = .ref a ∧ H a = some (.ins C dx fs) ∧ Meth X.K C "__eq__" fe ∧ Binds X.K fd ps [] ∧ FnT X.prog X.w X.K X.mg X.base k fe fd ps sp ∧ k + 1 ≤ j ∧
  (if ne = true then NeC X.K C fe ∧ ∃ b dy gs, vy = .ref b ∧ H b = some (.ins C dy gs) else ∃ tb, PySem.W.notFirst X.K C tb = true ∧ TyX X.K H vy tb) ∧
  sp [vx, vy] H (fun v H' => ∃ b, v = .bl b ∧ Q (.bl (f b)) H') (fun _ _ _ => False)
theorem op_eqM (hg : X.A.guards = some []) (hr : Room j X.A) : OpR X (compareOp .Eq) (rEqM X j id false) := by
  intro pins s σ H vx vy u v Q I rx ry h
  obtain ⟨a, C, dx, fs, fe, fd, ps, k, sp, rfl, ha, hm, hb, G, hk, hn, hsp⟩ := h
  cases rx
  obtain ⟨mA, J, _⟩ := ins_get I.hok ha
  obtain ⟨od, J, _⟩ := J.look
  obtain ⟨m, hF⟩ := I.fr
  rw [if_neg (by decide)] at hn
  obtain ⟨tb, hn, ty⟩ := hn
  obtain ⟨P, kx, hP, _⟩ := kit_of I ry ty
  unfold compareOp
  refine PySem.W.cmp_K (op := .Eq) (tb := tb) hr.units0 hF I.ok.mod.kin J (kx.ty _ _ I.kIn hP) hn hm.at_ hm.fn ?_
  refine wpAny_mono (run_fnTA (us := [.ref a, v]) (vs := [.ref a, vy]) rfl G hg (hr.mono (by omega)) hb takes0 I (.cons rfl (.cons ry .nil)) hsp) (fun r s' q => ?_) fun _ _ e => e
  obtain ⟨z, H', I', rz, b, rfl, q⟩ := q
  cases rz
  exact ⟨.bl b, H', I', rfl, q⟩
theorem op_neM (hg : X.A.guards = some []) (hr : Room j X.A) : OpR X (compareOp .NotEq) (rEqM X j not true) := by
  intro pins s σ H vx vy u v Q I rx ry h
  obtain ⟨a, C, dx, fs, fe, fd, ps, k, sp, rfl, ha, hm, hb, G, hk, hn, hsp⟩ := h
  cases rx
  obtain ⟨mA, J, _⟩ := ins_get I.hok ha
  obtain ⟨od, J, _⟩ := J.look
  rw [if_pos rfl] at hn
  obtain ⟨nc, b, dy, gs, rfl, hb'⟩ := hn
  cases ry
  obtain ⟨mB, J', _⟩ := ins_get I.hok hb'
  obtain ⟨od', J', _⟩ := J'.look
  have Y := ownNe_of I.kIn J nc
  obtain ⟨hh, g, d, t, os⟩ := s
  have hr2 : Room (k + 1) X.A := hr.mono hk
  refine compareOp_ne_ownEq PySem.F.cmp_object Y J'.1 J'.2 (by have := hr2.un; omega) ?_
  refine wpAny_mono (run_fnTA (us := [.ref a, .ref b]) (vs := [.ref a, .ref b]) rfl G hg hr2.in1 hb takes0 I (.cons rfl (.cons rfl .nil)) hsp) (fun r s' q => ?_) fun _ _ e => e
  obtain ⟨z, H', I', rz, b, rfl, q⟩ := q
  cases rz
  exact ⟨b, rfl, .bl (!b), H', I', rfl, q⟩
/-- what the written part holds of != -/
def NeM (K : PySem.W.Frag) (l : List (Str × FT)) : Prop := ∀ c F, l.lookup c = some F → ∀ C f, CN.at_ c = some C → PySem.W.findIn K (.ref C) "__eq__" = some (some (.ref f)) → NeC K C f
theorem neM_nil {K : PySem.W.Frag} : NeM K [] := fun c F h => by cases h
theorem neM_cons {K : PySem.W.Frag} {c : Str} {F : FT} {l : List (Str × FT)} (h1 : ∀ C f, CN.at_ c = some C → PySem.W.findIn K (.ref C) "__eq__" = some (some (.ref f)) → NeC K C f) (r : NeM K l) : NeM K ((c, F) :: l) := fun c' F' h => by
  by_cases e : c' = c
  · subst e; exact h1
  · rw [List.lookup_cons, beq_eq_false_iff_ne.mpr e] at h
    exact r c' F' h
theorem nf_ok [XCl] {K : PySem.W.Frag} {am : Option Addr} {Hs H : Hp} {y : T} {v : V} {c : Str} {C : Addr} (F : ClF K) (hC : CN.at_ c = some C) (s : Same Hs H) (r : Rep K am Hs y v) (h : nfT y c = true) : ∃ tb, PySem.W.notFirst K C tb = true ∧ TyX K H v tb := by
  unfold nfT at h
  simp only [Bool.and_eq_true, Bool.not_eq_true'] at h
  obtain ⟨h1, h2, h3⟩ := h
  have h1 : c ∈ XCl.asked := List.contains_iff_mem.mp h1
  have sub_of : ∀ {t : Value} {b : Bool}, t ≠ .ref C → PySem.W.kitOne K t (.ref C) = some b → PySem.W.subIn K t (.ref C) = some b := fun {t b} ne e => by
    unfold PySem.W.kitOne PySem.W.kitCls at e
    rw [if_neg (by simpa using ne)] at e
    dsimp only at e
    split at e
    · exact e
    · cases e
  split at h3
  · rename_i c' f e
    obtain ⟨C', hC', hf, ty | ⟨a, C2, dd, fs, rfl, hxx, _, xc, _⟩⟩ := ownF_ok F s r e
    · refine ⟨.ref C', ?_, ty⟩
      unfold PySem.W.notFirst
      by_cases q : C' = C
      · subst q; simp
      · rw [Bool.or_eq_true] at h3 ⊢
        refine .inr (beq_iff_eq.mpr (sub_of (by intro z; cases z; exact q rfl) ?_))
        have k := F.isa c' C' f c hC' hf h1 C hC
        rw [k]
        rcases h3 with z | z
        · have := beq_iff_eq.mp z
          subst this
          rw [hC] at hC'
          cases hC'
          exact (q rfl).elim
        · congr 1; simpa using z
    · cases y with
      | exc _ _ => cases h2
      | obj c2 fs2 =>
        simp only [Rep] at r
        obtain ⟨a', C3, dx, fvs, e1, _, h4, _⟩ := r
        cases e1
        rw [s _ _ h4] at hxx
        cases hxx
      | _ => cases e
  · split at h3
    · rename_i t e
      refine ⟨.type t, ?_, tyName_ok s r e⟩
      unfold PySem.W.notFirst
      rw [Bool.or_eq_true]
      exact .inr (beq_iff_eq.mpr (sub_of (by intro z; cases z) (F.bi c C hC h1 t (List.contains_iff_mem.mp h3))))
    · cases h3
theorem ok_eqO [XCl] {l : List (Str × FT)} (F : ClF X.K) (hl : EqM X j l) : R2Ok X.K (fun vx vy H Q => rEqX X.K vx vy H Q ∨ rEqM X j id false vx vy H Q) (gEqO l) := fun am Hs H n x y vx vy R Q sp rx ry h k => by
  have other : pEqB id x y R → rEqX X.K vx vy H Q ∨ rEqM X j id false vx vy H Q := fun h => .inl (ok_eq am Hs H n x y vx vy R Q sp rx ry h k)
  cases x with
  | obj c fs =>
    right
    dsimp only [gEqO] at h
    split at h
    · rename_i G e
      obtain ⟨h1, h2⟩ := h
      obtain ⟨C, f, fd, ps, kk, hC, hm, hb, FN, hj⟩ := hl c G e
      have rx' := rx
      simp only [Rep] at rx
      obtain ⟨a, C', dx, fvs, rfl, hC', ha, rf⟩ := rx
      rw [hC] at hC'
      cases hC'
      obtain ⟨tb, nf, ty⟩ := nf_ok F hC sp.sub ry h1
      refine ⟨a, C, dx, fvs, f, fd, ps, kk, _, rfl, sp.sub _ _ ha, hm, hb, FN, hj, by rw [if_neg (by decide)]; exact ⟨tb, nf, ty⟩, ?_⟩
      refine ⟨am, Hs, [.obj c fs, y], n, _, _, sp, Reps.mk_cons rx' (Reps.mk_cons ry (Reps.nil_iff.mpr rfl)), h2 n, fun r n' hr v Hs' H' e1 rv => ?_, fun _ _ z => z.elim⟩
      obtain ⟨rfl, b, rfl, hR⟩ := hr
      have rv' := rv
      simp only [Rep] at rv
      subst rv
      exact ⟨b, rfl, k _ hR _ Hs' H' e1 rv'⟩
    · exact h.elim
  | _ => exact other h
theorem ok_neO [XCl] {l : List (Str × FT)} (hl : EqM X j l) (hn : NeM X.K l) : R2Ok X.K (fun vx vy H Q => rNeX X.K vx vy H Q ∨ rEqM X j not true vx vy H Q) (gNeO l) := fun am Hs H n x y vx vy R Q sp rx ry h k => by
  have other : pEqB not x y R → rNeX X.K vx vy H Q ∨ rEqM X j not true vx vy H Q := fun h => .inl (ok_ne am Hs H n x y vx vy R Q sp rx ry h k)
  cases x with
  | obj c fs =>
    right
    dsimp only [gNeO] at h
    split at h
    · rename_i G e
      obtain ⟨h1, h2⟩ := h
      cases y with
      | obj c' gs =>
        dsimp only at h1
        subst h1
        obtain ⟨C, f, fd, ps, kk, hC, hm, hb, FN, hj⟩ := hl _ G e
        have rx' := rx
        have ry' := ry
        simp only [Rep] at rx ry
        obtain ⟨a, C', dx, fvs, rfl, hC', ha, rf⟩ := rx
        obtain ⟨b, C2, dy, gvs, rfl, hC2, hb2, rg⟩ := ry
        rw [hC] at hC' hC2
        cases hC'
        cases hC2
        refine ⟨a, C, dx, fvs, f, fd, ps, kk, _, rfl, sp.sub _ _ ha, hm, hb, FN, hj, by rw [if_pos rfl]; exact ⟨hn _ G e C f hC hm.at_, b, dy, gvs, rfl, sp.sub _ _ hb2⟩, ?_⟩
        refine ⟨am, Hs, [_, _], n, _, _, sp, Reps.mk_cons rx' (Reps.mk_cons ry' (Reps.nil_iff.mpr rfl)), h2 n, fun r n' hr v Hs' H' e1 rv => ?_, fun _ _ z => z.elim⟩
        obtain ⟨rfl, b, rfl, hR⟩ := hr
        have rv' := rv
        simp only [Rep] at rv
        subst rv
        exact ⟨b, rfl, k _ hR _ Hs' H' e1 (by simp only [Rep])⟩
      | _ => exact h1.elim
    · exact h.elim
  | _ => exact other h
theorem op_eqO (hg : X.A.guards = some []) (hr : Room j X.A) : OpR X (compareOp .Eq) (fun vx vy H Q => rEqX X.K vx vy H Q ∨ rEqM X j id false vx vy H Q) := (op_eqX hr.units).or (op_eqM hg hr)
theorem op_neO (hg : X.A.guards = some []) (hr : Room j X.A) : OpR X (compareOp .NotEq) (fun vx vy H Q => rNeX X.K vx vy H Q ∨ rEqM X j not true vx vy H Q) := (op_neX hr.units).or (op_neM hg hr)
end
theorem bind_all0 {x qual : Str} {st : Stmt} {ps : List Str} (h : ∀ (kV doc pm : Value) (an : Option Addr) (cdv ct : Value) (us : List Value), us.length = ps.length → bindArgs (PySem.W.fnOf x qual (defArgs st) (defBody st) (defScope st) .none kV doc pm an cdv ct) ⟨us, []⟩ = pure (ps.zip us)) : BindOk x qual st ps 0 0 := fun K dvs f fd G hl => by
  have hl := List.eq_nil_of_length_eq_zero hl
  subst hl
  obtain ⟨oc, od, dV, kV, doc, pm, an, cdv, ct, osl, rfl, lk, hcd, hd, _⟩ := G.ex
  rcases hd with ⟨_, rfl⟩ | ⟨z, _⟩
  · exact ⟨[], .nil, Binds.all (h kV doc pm an cdv ct)⟩
  · exact (z rfl).elim
end
/-! the functional layer -/
def boolOf : D T → D T
  | .ok (.bl b) => .ok (.bl b)
  | _ => .bad
def dEqO [XCl] (l : List (Str × (List T → D T))) : T → T → D T
  | .obj c fs, y => match l.lookup c with
    | some L => chk (nfT y c = true) (boolOf (L [.obj c fs, y]))
    | none => .bad
  | x, y => dEqB id x y
def notT : D T → D T
  | .ok (.bl b) => .ok (.bl (!b))
  | _ => .bad
def dNeO (l : List (Str × (List T → D T))) : T → T → D T
  | .obj c fs, .obj c' gs => match l.lookup c with
    | some L => chk (c' = c) (notT (L [.obj c fs, .obj c' gs]))
    | none => .bad
  | .obj _ _, _ => .bad
  | x, y => dEqB not x y
abbrev ftL (l : List (Str × (List T → D T))) : List (Str × FT) := l.map fun p => (p.1, ft p.2)
theorem look_ftL {l : List (Str × (List T → D T))} {c : Str} {L : List T → D T} (h : l.lookup c = some L) : (ftL l).lookup c = some (ft L) := by
  induction l with
  | nil => cases h
  | cons p r ih =>
    obtain ⟨d, M⟩ := p
    by_cases e : c = d
    · subst e
      rw [List.lookup_cons, beq_self_eq_true] at h
      cases h
      show List.lookup c ((c, ft L) :: _) = _
      rw [List.lookup_cons, beq_self_eq_true]
    · rw [List.lookup_cons, beq_eq_false_iff_ne.mpr e] at h
      show List.lookup c ((d, ft M) :: _) = _
      rw [List.lookup_cons, beq_eq_false_iff_ne.mpr e]
      exact ih h
theorem p_eqO [XCl] (l : List (Str × (List T → D T))) : P2 (gEqO (ftL l)) (dEqO l) := fun E x y n R h => by
  cases x with
  | obj c fs =>
    dsimp only [dEqO] at h
    dsimp only [gEqO]
    split at h
    · rename_i L e
      rw [look_ftL e]
      obtain ⟨h1, h2⟩ := wp_chk.mp h
      refine ⟨h1, fun m => ?_⟩
      show wp _ (L [.obj c fs, y]) m _
      generalize L [.obj c fs, y] = d at h2
      unfold boolOf at h2
      split at h2
      · rename_i b; exact ⟨rfl, b, rfl, h2⟩
      · exact h2.elim
    · exact h.elim
  | _ => exact p_eqB E _ y n R h
theorem p_neO (l : List (Str × (List T → D T))) : P2 (gNeO (ftL l)) (dNeO l) := fun E x y n R h => by
  cases x with
  | obj c fs =>
    cases y with
    | obj c' gs =>
      dsimp only [dNeO] at h
      dsimp only [gNeO]
      split at h
      · rename_i L e
        rw [look_ftL e]
        obtain ⟨h1, h2⟩ := wp_chk.mp h
        refine ⟨h1, fun m => ?_⟩
        show wp _ (L [.obj c fs, .obj c' gs]) m _
        generalize L [.obj c fs, .obj c' gs] = d at h2
        unfold notT at h2
        split at h2
        · rename_i b; exact ⟨rfl, b, rfl, h2⟩
        · exact h2.elim
      · exact h.elim
    | _ => exact h.elim
  | _ => exact p_eqB E _ y n R h
theorem rr_at {E : XE} {w : WS} {ts ts' : Env} {d : D T} (e : ts = ts') (h : RR E w ts' d) : RR E w ts d := by subst e; exact h
theorem rf_at {E : XE} {w : WS} {ts ts' : Env} {d : D T} (e : ts = ts') (h : RF E w ts' d) : RF E w ts d := by subst e; exact h
theorem rn_at {γ J : Type} {E : XE} {w : WS} {ts ts' : Env} {d : D γ} {o : γ → J → Env} (e : ts = ts') (h : RN E w ts' d o) : RN E w ts d o := by subst e; exact h
theorem rm_at {γ J : Type} {E : XE} {w : WS} {ts ts' : Env} {d : D (Out γ)} {o : γ → J → Env} (e : ts = ts') (h : RM E w ts' d o) : RM E w ts d o := by subst e; exact h
end TL
namespace TL
open PySem L2
/-! [..] * n, one's own -/
def pRepL : G2 := fun x y R => match x, y with
  | .lst xs, .int i => (0 ≤ i ∧ i ≤ 100000 ∧ xs.length ≤ 100) ∧ R (.lst (List.replicate i.toNat xs).flatten)
  | _, _ => False
section
variable [Mach] [CN] [Xw] {X : Cx} {a b : Expr} {fa fb : WE} {pos : Pos}
theorem qf_rep (ha : QE X a fa) (hb : QE X b fb) : QF X (.BinOp a .Mult b pos) (w2 pRepL fa fb) := PE.imp (pe_op op_rep ha hb) fun σ H Q ⟨am, Hs, ts, n, R, sp, re, h, k⟩ => by
  refine ⟨am, Hs, ts, n, _, sp, re, h, fun x n1 hx vx Hs1 H1 e1 rx => ⟨am, Hs1, ts, n1, _, e1.spl, re.ext e1, hx, fun y n2 hy vy Hs2 H2 e2 ry => ?_⟩⟩
  have rz := Rep.mono e2.same _ _ rx
  clear rx
  unfold pRepL at hy
  split at hy
  · rename_i xs i
    simp only [Rep] at rz ry
    obtain ⟨p, vs, rfl, h1, h2⟩ := rz
    obtain ⟨c1, c2, c3⟩ := hy.1
    have hz : vs.length * i.toNat ≤ sizeLine := by
      rw [← h2.length]
      exact Nat.le_trans (Nat.mul_le_mul c3 (show i.toNat ≤ 100000 by omega)) (by decide)
    refine ⟨p, i, vs, rfl, ry, e2.spl.sub _ _ h1, by omega, by omega, hz, fun c hc => ?_⟩
    exact k _ n2 hy.2 c Hs2 _ ((e1.trans e2).trans (Ext.lay1 e2.spl hc _)) (e1.keep.dom c (e2.keep.dom c hc)) (e2.spl.sub.free hc) (mc_new e2.spl hc) ⟨_, upd_same, h2.flat⟩
  · exact hy.elim
end
def dRepL : T → T → D T
  | .lst xs, .int i => chk (0 ≤ i ∧ i ≤ 100000 ∧ xs.length ≤ 100) (.ok (.lst (List.replicate i.toNat xs).flatten))
  | _, _ => .bad
theorem p_repL : P2 pRepL dRepL := fun E x y n R h => by
  unfold dRepL at h
  split at h
  · exact wp_chk.mp h
  · exact h.elim
theorem dRepL_li {z : List T} {i : Int} : dRepL (.lst z) (.int i) = chk (0 ≤ i ∧ i ≤ 100000 ∧ z.length ≤ 100) (.ok (.lst (List.replicate i.toNat z).flatten)) := rfl
end TL
namespace TL
open PySem L2
/-! names = fresh things, through a tuple -/
section
variable [Mach] [CN] [Xw] {X : Cx}
inductive NmL (X : Cx) : List Expr → List Nat → Prop
  | nil : NmL X [] []
  | cons {i : Nat} {x : Str} {p : Pos} {es : List Expr} {is : List Nat} (hi : X.N[i]? = some x) (hx : Loc X.env.scope x) (hf : X.fn x = true ∨ X.env.scope.names.lookup x = some .local)
      (hs : (assignEach (.Name x p :: es) X.env).map (·.2) = assign (.Name x p) X.env :: (assignEach es X.env).map (·.2)) (r : NmL X es is) : NmL X (.Name x p :: es) (i :: is)
def gNs (is : List Nat) : TGs := fun vs σ H Q => vs.length = is.length ∧ Q (setF is vs σ) H
theorem pgs_names (hN : X.N.Nodup) {es : List Expr} {is : List Nat} (h : NmL X es is) : PGs X es (gNs is) := by
  induction h with
  | nil =>
    refine PGs.imp pgs_nil fun vs σ H Q q => ?_
    obtain ⟨e, q⟩ := q
    match vs, e with
    | [], _ => exact ⟨rfl, q⟩
  | @cons i x p es is hi hx hf hs r ih =>
    refine PGs.imp (pgs_cons (pg_name hN hi hx hf) ih hs) fun vs σ H Q q => ?_
    obtain ⟨e, q⟩ := q
    match vs, e with
    | v :: vs, e => exact ⟨v, vs, rfl, by simpa using e, q⟩
theorem qs_asgF {es as : List Expr} {is : List Nat} {fa : WAF} {kt k2 : _} {pt p2 pos : Pos} (hc : X.calm = true) (hN : X.N.Nodup) (hn : NmL X es is) (ha : QAF X as fa) (hl : (assignEach es X.env).length = is.length := by rfl) (hst : (assignEach es X.env).findIdx? (·.1) = none := by rfl) (hz : is.length ≤ 100 := by decide)
    (hs : swapsWithSole [.Tuple es kt pt] (.Tuple as k2 p2) pos.line X.env = pure false := by rfl) (hw : swappedStores [.Tuple es kt pt] (.Tuple as k2 p2) X.env = pure none := by rfl)
    (h1 : (assignEach [.Tuple es kt pt] X.env).map (·.2) = [assign (.Tuple es kt pt) X.env] := by rfl) : QS X (.Assign [.Tuple es kt pt] (.Tuple as k2 p2) pos) (wsParF is fa) :=
  PS.imp (ps_asg (pe_tup ha) (pg_tup hc (pgs_names hN hn) hl hst) hs hw h1) fun D σ H ⟨am, H0, Hs0, ts, n, W, s, h, k, kx⟩ =>
    tTAF_at kx s h fun r n' hr vs Hs' H' x hlen b => by
      obtain ⟨h1, hr⟩ := hr
      have e : vs.length = is.length := hlen.trans h1
      refine ⟨by rw [e]; exact Nat.le_trans hz (by decide), fun p hp => ⟨p, vs, rfl, .inl ?_, e, e, k.nx _ _ _ n' ⟨Hs', x.trans (Ext.lay1 x.spl hp _), (b is).ext (Ext.lay1 x.spl hp _)⟩ hr⟩⟩
      exact Rd.of upd_same
end
end TL
/-! tuple * int: once, or never -/
namespace L2
open PySem PySem.Spec PyProof.Rows
theorem tuple_mul1 (l : Addr) (items : Array Value) (n : Nat) (dd : Option Addr) (sl : Array (Option Value)) (x : Int) (u : Tok) (c0 : (decide (x < -(2 ^ 63)) || decide (x ≥ 2 ^ 63)) = false) (c1 : (items.isEmpty || x == 1) = true) :
    Meets (Builtin.«tuple.__mul__» ⟨[.ref l, .int x u], []⟩) (fun _ R s => s.heap.get? l = some { cls := .type "tuple", dict := dd, data := .seq items n, slots := sl } ∧ R (.ok (.ret (.ref l))) s) :=
  .of_wp fun prog w A R s h => by
    obtain ⟨hp, g, d, tk, os⟩ := s
    obtain ⟨hl, h⟩ := h
    have f1 := AutoSeq1.idx_int
    wp_walk using wpAny_loadPart' hl
    repeat (first
      | (refine wpAny_ite_false (decide_eq_false (by rw [c0]; exact Bool.false_ne_true)) ?_; wp_walk using wpAny_loadPart' hl)
      | (refine wpAny_ite_true (decide_eq_true c1) ?_; wp_walk using wpAny_loadPart' hl))
    exact ⟨_, rfl, h⟩
theorem tuple_mul0 (l : Addr) (items : Array Value) (n : Nat) (dd : Option Addr) (sl : Array (Option Value)) (x : Int) (u : Tok) (c0 : (decide (x < -(2 ^ 63)) || decide (x ≥ 2 ^ 63)) = false) (c1 : (items.isEmpty || x == 1) = false) (c2 : (decide (x ≤ 0) || items.isEmpty) = true) :
    Meets (Builtin.«tuple.__mul__» ⟨[.ref l, .int x u], []⟩) (fun _ R s => s.heap.get? l = some { cls := .type "tuple", dict := dd, data := .seq items n, slots := sl } ∧
      R (.ok (.ret (Value.ref s.heap.objs.size))) { s with heap := s.heap.push { cls := Value.type "tuple", data := Data.seq #[] }, toks := s.toks }) :=
  .of_wp fun prog w A R s h => by
    obtain ⟨hp, g, d, tk, os⟩ := s
    obtain ⟨hl, h⟩ := h
    have f1 := AutoSeq1.idx_int
    wp_walk using wpAny_loadPart' hl
    repeat (first
      | (refine wpAny_ite_false (decide_eq_false (by rw [c0]; exact Bool.false_ne_true)) ?_; wp_walk using wpAny_loadPart' hl)
      | (refine wpAny_ite_false (decide_eq_false (by rw [c1]; exact Bool.false_ne_true)) ?_; wp_walk using wpAny_loadPart' hl)
      | (refine wpAny_ite_true (decide_eq_true c2) ?_; wp_walk using wpAny_loadPart' hl))
    exact ⟨_, rfl, h⟩
def rRepTT (K : PySem.W.Frag) : R2 := fun x y H Q => ∃ l k xs, x = .ref l ∧ y = .int k ∧ SqT K H l xs ∧ -1000 ≤ k ∧ k ≤ 1000 ∧ xs.length ≤ 1000 ∧
  (((xs = [] ∨ k = 1) ∧ Q (.ref l) H) ∨ (xs ≠ [] ∧ k ≤ 0 ∧ ∀ p, H p = none → Q (.ref p) (upd H p (.tup []))) ∨ (xs ≠ [] ∧ 2 ≤ k ∧ ∀ p, H p = none → Q (.ref p) (upd H p (.tup (List.replicate k.toNat xs).flatten))))
section
variable {X : Cx}
theorem op_repTT : OpR X (binaryOp .Mult) (rRepTT X.K) := by
  intro pins s σ H x y v u Q I rx ry h
  obtain ⟨l, k, xs, rfl, rfl, hT, h1, h2, hz, h⟩ := h
  rcases h with ⟨hx, q⟩ | ⟨hne, hk, q⟩ | ⟨hne, hk, q⟩
  · cases rx
    obtain ⟨t, rfl⟩ := ry
    obtain ⟨its, r, ⟨⟨cls, dd, data, sl⟩, ho, hc, n, hd⟩, hs⟩ := I.tuple hT
    simp only at hc hd
    subst hc hd
    have hle : its.length = xs.length := r.length.symm
    have c0 : (decide (k < -(2 ^ 63)) || decide (k ≥ 2 ^ 63)) = false := by
      rw [decide_eq_false (by omega), decide_eq_false (by omega)] <;> rfl
    have c1 : (its.toArray.isEmpty || k == 1) = true := by
      rcases hx with e | e
      · subst e
        rw [List.eq_nil_of_length_eq_zero hle]; rfl
      · rw [e]; simp
    refine wpAny_binaryOp_repeat_ref (T := "tuple") (U := "int") (by decide) ⟨_, ho, rfl⟩ (fun s' => typeIs_int s' k t) noFill_tuple_mul F.fills_int_mul F.slot_int_rmul repeat_tuple F.slot_int_index.lookup
      (call_meets F.slot_int_rmul (typeIs_int s k t) F.entry_int_rmul (F.args_int_rmul_2 _ _) (int_rmul_tuple k t l its.toArray n dd sl)
        ⟨ho, rfl, ⟨_, ho, rfl⟩, call_meets F.slot_tuple_mul ⟨_, ho, rfl⟩ F.entry_tuple_mul (F.args_tuple_mul_2 _ _) (tuple_mul1 l its.toArray n dd sl k t c0 c1) ⟨ho, ?_⟩⟩)
    exact ⟨.ref l, H, I, rfl, q⟩
  · cases rx
    obtain ⟨t, rfl⟩ := ry
    obtain ⟨its, r, ⟨⟨cls, dd, data, sl⟩, ho, hc, n, hd⟩, hs⟩ := I.tuple hT
    simp only at hc hd
    subst hc hd
    have hle : its.length = xs.length := r.length.symm
    have hn : its ≠ [] := fun e => hne (by
      rw [e] at hle
      exact List.eq_nil_of_length_eq_zero hle.symm)
    have hi : its.toArray.isEmpty = false := by
      cases its with
      | nil => exact absurd rfl hn
      | cons a b => rfl
    have c0 : (decide (k < -(2 ^ 63)) || decide (k ≥ 2 ^ 63)) = false := by
      rw [decide_eq_false (by omega), decide_eq_false (by omega)] <;> rfl
    have c1 : (its.toArray.isEmpty || k == 1) = false := by
      rw [hi, Bool.false_or]
      exact beq_eq_false_iff_ne.mpr (by omega)
    have c2 : (decide (k ≤ 0) || its.toArray.isEmpty) = true := by
      rw [hi, Bool.or_false]
      exact decide_eq_true hk
    refine wpAny_binaryOp_repeat_ref (T := "tuple") (U := "int") (by decide) ⟨_, ho, rfl⟩ (fun s' => typeIs_int s' k t) noFill_tuple_mul F.fills_int_mul F.slot_int_rmul repeat_tuple F.slot_int_index.lookup
      (call_meets F.slot_int_rmul (typeIs_int s k t) F.entry_int_rmul (F.args_int_rmul_2 _ _) (int_rmul_tuple k t l its.toArray n dd sl)
        ⟨ho, rfl, ⟨_, ho, rfl⟩, call_meets F.slot_tuple_mul ⟨_, ho, rfl⟩ F.entry_tuple_mul (F.args_tuple_mul_2 _ _) (tuple_mul0 l its.toArray n dd sl k t c0 c1 c2) ⟨ho, ?_⟩⟩)
    refine ⟨.ref s.heap.objs.size, _, I.laid (t' := s.toks) (o := .tup []) (fun b ob q => Heap.get?_push_of_some _ q) (Nat.le_refl _) ?_, rfl, q _ (I.hok.fresh (Nat.le_refl _))⟩
    exact ⟨by decide, _, .nil, IsTup.new _ _⟩
  · exact op_repT pins s σ H _ _ v u Q I rx ry ⟨l, k, xs, rfl, rfl, hT, hne, hk, h2, hz, q⟩
end
end L2
namespace TL
open PySem L2
def pRepT : G2 := fun x y R => match x, y with
  | .tup xs, .int i => (0 ≤ i ∧ i ≤ 1000 ∧ xs.length ≤ 1000) ∧ R (.tup (List.replicate i.toNat xs).flatten)
  | _, _ => False
section
variable [Mach] [CN] [Xw]
theorem ok_repT {K : PySem.W.Frag} : R2Ok K (rRepTT K) pRepT := fun am Hs H n x y vx vy R Q sp rx ry h k => by
  unfold pRepT at h
  split at h
  · rename_i xs i
    simp only [Rep] at ry
    have rx0 := rx
    simp only [Rep] at rx
    obtain ⟨p, vs, rfl, h1, h2⟩ := rx
    obtain ⟨c1, c2, c3⟩ := h.1
    have hl := h2.length
    refine ⟨p, i, vs, rfl, ry, same_sqT sp.sub h1, by omega, c2, by omega, ?_⟩
    by_cases e1 : vs = [] ∨ i = 1
    · refine .inl ⟨e1, k.here sp h.2 ?_⟩
      rcases e1 with e | e
      · have : xs = [] := List.eq_nil_of_length_eq_zero (by rw [hl, e]; rfl)
        subst this
        have : (List.replicate i.toNat ([] : List T)).flatten = [] := by simp
        rw [this]; exact rx0
      · subst e
        have : (List.replicate (1 : Int).toNat xs).flatten = xs := by simp
        rw [this]; exact rx0
    · have e2 : vs ≠ [] := fun z => e1 (.inl z)
      have e3 : i ≠ 1 := fun z => e1 (.inr z)
      by_cases e4 : i = 0
      · subst e4
        refine .inr (.inl ⟨e2, by omega, fun q hq => k.lay sp h.2 hq _ (rep_tup_new sp hq ?_)⟩)
        exact Reps.nil_iff.mpr rfl
      · exact .inr (.inr ⟨e2, by omega, fun q hq => k.lay sp h.2 hq _ (rep_tup_new sp hq h2.flat)⟩)
  · exact h.elim
end
def dRepT : T → T → D T
  | .tup xs, .int i => chk (0 ≤ i ∧ i ≤ 1000 ∧ xs.length ≤ 1000) (.ok (.tup (List.replicate i.toNat xs).flatten))
  | _, _ => .bad
theorem p_repT : P2 pRepT dRepT := fun E x y n R h => by
  unfold dRepT at h
  split at h
  · exact wp_chk.mp h
  · exact h.elim
theorem dRepT_ti {z : List T} {i : Int} : dRepT (.tup z) (.int i) = chk (0 ≤ i ∧ i ≤ 1000 ∧ z.length ≤ 1000) (.ok (.tup (List.replicate i.toNat z).flatten)) := rfl
end TL
/-! enumerate(tuple) -/
namespace PySem
open Sem (wp)
open AutoSeq1 (wpAny_loadPart')
theorem meets_enumerate_newT (l : Addr) (items : Array Value) (n : Nat) (dct : Option Addr) (sl : Array (Option Value)) :
    Meets (Builtin.«enumerate.__new__» ⟨[.type "enumerate", .ref l], []⟩) (fun _ R s => s.heap.get? l = some { cls := .type "tuple", dict := dct, data := .seq items n, slots := sl } ∧
      R (.ok (.ret (.ref (s.heap.push { cls := .type "tuple_iterator", data := .fields #[.ref l, .int 0 0] }).objs.size)))
        { s with heap := (s.heap.push { cls := .type "tuple_iterator", data := .fields #[.ref l, .int 0 0] }).push { cls := .type "enumerate", data := .fields #[.none, .bool false, .ref s.heap.objs.size, rawInt 0, .none, .none] } }) :=
  .of_wp fun prog w A R s h => by
    obtain ⟨hp, g, d, tk, os⟩ := s; obtain ⟨hl, h⟩ := h
    have hsub := sub_enumerate
    have hL : Heap.IsTuple (Shared.heap ⟨hp, g, d, tk, os⟩) l items := ⟨_, hl, rfl, n, rfl⟩
    wp_walk using wpAny_loadPart' hl
    refine wpAny_stack_any fun st => wpAny_pure ?_
    split
    · rename_i c _ _ _ _ _
      cases (c == Value.type "enumerate")
      · wp_walk using wpAny_loadPart' hl, wpAny_pyIter_tuple hL
        exact ⟨_, rfl, h⟩
      · wp_walk using wpAny_loadPart' hl, wpAny_pyIter_tuple hL
        exact ⟨_, rfl, h⟩
    · wp_walk using wpAny_loadPart' hl, wpAny_pyIter_tuple hL
      exact ⟨_, rfl, h⟩
section
variable {prog : Program} {w : World} {A : Around} {E : Value → Shared → Prop} {s : Shared}
theorem call_enumerate_tuple {l : Addr} {items : Array Value} {Q : Value → Shared → Prop} (hL : s.heap.IsTuple l items)
    (h : ∀ h', IsEnum h' (s.heap.objs.size + 1) s.heap.objs.size 0 .none → h'.IsTupleIter s.heap.objs.size l 0 → h'.objs.size = s.heap.objs.size + 2 →
      (∀ b o, s.heap.get? b = some o → h'.get? b = some o) → Q (.ref (s.heap.objs.size + 1)) { s with heap := h' }) :
    wpAny (model prog w) A (call (.type "enumerate") [.ref l]) Q E s := by
  obtain ⟨⟨c, dct, dt, sl⟩, hl, hc, n, hd⟩ := hL
  replace hc : c = .type "tuple" := hc
  replace hd : dt = .seq items n := hd
  subst hc hd
  refine callType_new F.called_enumerate (by decide) (F.typeCall_enumerate_1 _) (F.newCall_enumerate_1 _) (fun obj => F.args_object_init_2 obj _) F.entry_enumerate_new
    (meets_enumerate_newT l items n dct sl) ⟨hl, ?_⟩
  have hz : (s.heap.push { cls := .type "tuple_iterator", data := .fields #[.ref l, .int 0 0] }).objs.size = s.heap.objs.size + 1 := Heap.size_push ..
  show _ ∧ _
  rw [hz]
  have he : IsEnum ((s.heap.push { cls := .type "tuple_iterator", data := .fields #[.ref l, .int 0 0] }).push
      { cls := .type "enumerate", data := .fields #[.none, .bool false, .ref s.heap.objs.size, rawInt 0, .none, .none] }) (s.heap.objs.size + 1) s.heap.objs.size 0 .none := by
    have := Heap.get?_push_size (s.heap.push { cls := .type "tuple_iterator", data := .fields #[.ref l, .int 0 0] })
      (o := { cls := .type "enumerate", data := .fields #[.none, .bool false, .ref s.heap.objs.size, rawInt 0, .none, .none] }) rfl
    rw [hz] at this; exact this
  refine ⟨⟨_, he, rfl⟩, h _ he ⟨_, Heap.get?_push_of_some _ (Heap.get?_push_size _ rfl), rfl, rfl⟩ (by rw [Heap.size_push, hz]) fun b o x => Heap.get?_push_of_some _ (Heap.get?_push_of_some _ x)⟩
end
end PySem
namespace TL
open PySem PySem.Spec PyProof.Rows L2
def wiEnumX (fs : WA) : WI := fun ts n S => fs ts n fun xs n1 => match xs with
  | [x] => itemsT x fun ys => S (enumT ys) n1
  | _ => False
section
variable [Mach] [CN] [Xw] {X : Cx} {e e2 : Expr} {fs : WA} {p pos tpos : Pos} {elts : List Expr} {kk : Nat}
theorem qi_enumX (hg : Gl X "enumerate") (hm : X.mg "enumerate" = none) (ha : QA X [e] fs) (hs : starEach [e] X.env = [(false, eval e X.env)] := by rfl) : QI X (.Tuple elts kk tpos) (.Call (.Name "enumerate" p) [e] [] pos) (wiEnumX fs) := by
  refine ⟨fun pins s σ H R I h => ?_⟩
  obtain ⟨am, Hs, ts, n, S, sp, re, h, k⟩ := h
  refine Call_ (ld_blt I hg hm boot_enumerate (PyProof.Rows.callWith_type1 (thn (ha.run pos pins s σ H (fun vs H1 => ∃ src ys, vs = [Src.v src] ∧ src.at_ X.K H1 ys ∧ R (ItEn X.K src) H1) I ⟨am, Hs, ts, n, _, sp, re, h, fun xs n1 hx vs Hs1 H1 e1 rx => ?_⟩) fun us s1 ⟨vs, H1, I1, r1, src, ys, ev, hsrc, q⟩ => ?_) hs rfl))
  · split at hx
    · rename_i x
      obtain ⟨v, rfl, r1⟩ := rx.one
      obtain ⟨ys, hy, src, ws, rfl, h1, h2, h3⟩ := srcOf r1 hx
      exact ⟨src, ws, rfl, src_mono e1.spl.sub h1, k _ n1 hy _ Hs1 H1 e1 (walkT_en h1 h2)⟩
    · exact hx.elim
  · subst ev
    cases r1 with
    | cons r rr =>
      cases rr
      have le : ∀ b, b ∈ [s1.heap.objs.size + 1, s1.heap.objs.size] → s1.heap.objs.size ≤ b := fun b hb => by
        have e' : b = s1.heap.objs.size + 1 ∨ b = s1.heap.objs.size := by simpa using hb
        rcases e' with z | z
        · rw [z]; exact Nat.le_add_right _ _
        · rw [z]; exact Nat.le_refl _
      cases src with
      | l a =>
        cases r
        obtain ⟨its, rv, pl, hz⟩ := I1.list hsrc
        have la : a < s1.heap.objs.size := pl.lt
        refine call_enumerate_list pl.isList fun h' he hit hsz hk => wpAny_pyIter_enum he ?_
        exact ⟨s1.heap.objs.size + 1, [s1.heap.objs.size + 1, s1.heap.objs.size], _, _, H1, rfl, I1.kept (t' := s1.toks) hk, turn_en (src := .l a) (tk := 0) (Nat.succ_ne_self _) (Nat.ne_of_lt (Nat.lt_succ_of_lt la)) (Nat.ne_of_lt la), ⟨⟨.none, he⟩, hit⟩, fun b hb => I1.fpOk (le b hb) (I1.hok.fresh (le b hb)), q⟩
      | t a =>
        cases r
        obtain ⟨its, rv, ⟨o, ho, hc, nn, hd⟩, hz⟩ := I1.tuple hsrc
        have la : a < s1.heap.objs.size := Heap.lt_size ho
        refine call_enumerate_tuple ⟨o, ho, hc, nn, hd⟩ fun h' he hit hsz hk => wpAny_pyIter_enum he ?_
        exact ⟨s1.heap.objs.size + 1, [s1.heap.objs.size + 1, s1.heap.objs.size], _, _, H1, rfl, I1.kept (t' := s1.toks) hk, turn_en (src := .t a) (tk := 0) (Nat.succ_ne_self _) (Nat.ne_of_lt (Nat.lt_succ_of_lt la)) (Nat.ne_of_lt la), ⟨⟨.none, he⟩, hit⟩, fun b hb => I1.fpOk (le b hb) (I1.hok.fresh (le b hb)), q⟩
      | s x =>
        obtain ⟨t, rfl⟩ := r
        refine call_enumerate_str fun h' he hit hsz hk => wpAny_pyIter_enum he ?_
        exact ⟨s1.heap.objs.size + 1, [s1.heap.objs.size + 1, s1.heap.objs.size], _, _, H1, rfl, I1.kept (t' := s1.toks) hk, turn_en (src := .s x) (tk := t) (Nat.succ_ne_self _) trivial trivial, ⟨⟨.none, he⟩, hit⟩, fun b hb => I1.fpOk (le b hb) (I1.hok.fresh (le b hb)), q⟩
end
def enumX : List T → D (List T)
  | [x] => (itemsD x).bind fun ys => .ok (enumT ys)
  | _ => .bad
theorem ui_enumX {E : XE} {fs : WA} {ts : Env} {ds : D (List T)} (h : RA_ E fs ts ds) : RI_ E (wiEnumX fs) ts (ds.bind enumX) := fun n R q => h n _ (wp_mono (wp_bind.mp q) fun xs n1 q1 => by
  unfold enumX at q1
  split at q1
  · exact items_ok (S := fun ys n1 => R (enumT ys) n1) (wp_bind.mp q1)
  · exact q1.elim)
theorem enumX_l {xs : List T} : enumX [.lst xs] = .ok (enumT xs) := rfl
theorem enumX_t {xs : List T} : enumX [.tup xs] = .ok (enumT xs) := rfl
end TL
/-! an item of one's own list -/
namespace TL
open PySem PySem.Spec L2
def wIxO (i : Nat) (f : WE) : WE := fun ts n R => (∃ c, ts[i]? = some (.own c)) ∧ f ts n fun y n1 => ∃ xs k t, ts[i]? = some (.own (.lst xs)) ∧ y = .int k ∧ atI xs k = some t ∧ R t n1
section
variable [Mach] [CN] [Xw] {X : Cx} {e : Expr} {f : WE} {p pos : Pos}
theorem q_ixOwn {i : Nat} {x : Str} (h : PE X (.Name x p) (tVar i)) (he : QE X e f) (hs : PlainIx e) : QE X (.Subscript (.Name x p) e pos) (wIxO i f) := PE.imp (pe_ix ix_list h he hs) fun σ H Q q => by
  obtain ⟨am, Hs, ts, n, R, sp, re, ⟨⟨c, e0⟩, hf⟩, k⟩ := q
  obtain ⟨l, q1, q2, q3, ow⟩ := re.at_ i _ e0
  refine ⟨.ref l, q1, am, Hs, ts, n, _, sp, re, hf, fun y n1 hy vy Hs1 H1 x1 ry => ?_⟩
  obtain ⟨xs, kk, t, e1, rfl, h1, h2⟩ := hy
  rw [e0] at e1
  cases e1
  obtain ⟨vs, q4, rs⟩ := ow
  simp only [Rep] at ry
  subst ry
  obtain ⟨v, h3, h4⟩ := (Reps.mono x1.same _ _ rs).atI h1
  have := x1.keep.at_ l _ q4 q3
  exact ⟨l, vs, kk, v, rfl, rfl, SqL.of this, h3, k t n1 h2 v Hs1 H1 x1 h4⟩
end
def dIxO : T → T → D T
  | .lst xs, .int k => (match L2.atI xs k with
    | some t => .ok t
    | none => .bad)
  | _, _ => .bad
theorem u_ixO {E : XE} {f : WE} {ts : Env} {i : Nat} {c : T} {da : D T} (e : ts[i]? = some (.own c)) (h : RE_ E f ts da) : RE_ E (wIxO i f) ts (da.bind fun y => dIxO c y) := fun n R q => by
  refine ⟨⟨c, e⟩, h n _ (wp_mono (wp_bind.mp q) fun y n1 q1 => ?_)⟩
  unfold dIxO at q1
  split at q1
  · split at q1
    · rename_i xs k t h1
      exact ⟨_, _, t, e, rfl, h1, q1⟩
    · exact q1.elim
  · exact q1.elim
theorem dIxO_l {xs : List T} {k : Int} : dIxO (.lst xs) (.int k) = match L2.atI xs k with | some t => .ok t | none => .bad := rfl
end TL
/-! tuple(..) of one's own list -/
namespace TL
open PySem PySem.Spec L2
def wTupO (i : Nat) : WE := fun ts n R => ∃ xs, ts[i]? = some (.own (.lst xs)) ∧ R (.tup xs) n
section
variable [Mach] [CN] [Xw] {X : Cx} {p p' pos : Pos}
theorem q_tupOwn {i : Nat} {x : Str} (h : PE X (.Name x p) (tVar i)) (hgl : Gl X "tuple") (hm : X.mg "tuple" = none)
    (he : starEach [.Name x p] X.env = (false, eval (.Name x p) X.env) :: starEach [] X.env := by rfl) : QE X (.Call (.Name "tuple" p') [.Name x p] [] pos) (wTupO i) :=
  PE.imp (pe_callTy call_tuple_of hgl hm (by rfl) (pa_cons h pa_nil he) (by decide) (by decide) he (by rfl)) fun σ H Q q => by
  obtain ⟨am, Hs, ts, n, R, sp, re, ⟨xs, e0, hR⟩, k⟩ := q
  obtain ⟨l, q1, q2, q3, ow⟩ := re.at_ i _ e0
  obtain ⟨vs, q4, rs⟩ := ow
  have k' : Done X.K am Hs H n (fun z => R z n) Q := fun z hz v Hs' H' e r => k z n hz v Hs' H' e r
  exact ⟨.ref l, q1, l, vs, rfl, .inl ⟨SqL.of q4, fun l' hl => k'.lay sp hR hl _ (rep_tup_new sp hl rs)⟩⟩
end
def dTupO : T → D T
  | .lst xs => .ok (.tup xs)
  | _ => .bad
theorem u_tupO {E : XE} {ts : Env} {i : Nat} {c : T} (e : ts[i]? = some (.own c)) : RE_ E (wTupO i) ts (dTupO c) := fun n R q => by
  unfold dTupO at q
  split at q
  · rename_i xs; exact ⟨xs, e, q⟩
  · exact q.elim
end TL
/-! t[::-1] of a tuple -/
namespace TL
open PySem PySem.Spec PyProof.Rows L2 HT
section
variable {prog : Program} {w : World} {A : Around} {E : Value → Shared → Prop} {s : Shared}
theorem adjust_rev (n : Nat) : Builtin.Slice.sliceAdjust none none (-1) (n : Int) = ((n : Int) - 1, -1) := by
  unfold Builtin.Slice.sliceAdjust
  have h1 : ((-1 : Int) < 0) := by omega
  simp [h1]
theorem places_rev (n : Nat) : Builtin.Slice.slicePlaces ((n : Int) - 1) (-1) (-1) = n := by
  unfold Builtin.Slice.slicePlaces
  have h1 : ¬ ((-1 : Int) > 0) := by omega
  simp only [h1, if_false]
  split
  · simp
  · omega
theorem pick_rev (xs : Array Value) : ((List.range xs.size).filterMap fun (k : Nat) => xs[((xs.size : Int) - 1 + (k : Int) * -1).toNat]?).toArray = xs.toList.reverse.toArray := by
  have e : (List.range xs.size).filterMap (fun (k : Nat) => xs[((xs.size : Int) - 1 + (k : Int) * -1).toNat]?) = ((List.range xs.size).map fun k => xs.size - 1 - k).filterMap (xs[·]?) := by
    rw [List.filterMap_map]
    congr 1
    funext k
    have q : ((xs.size : Int) - 1 + (k : Int) * -1).toNat = xs.size - 1 - k := by omega
    show _ = xs[xs.size - 1 - k]?
    rw [q]
  rw [e, PySem.W.krv_range, List.filterMap_reverse, PySem.W.krv_all]
theorem getItem_tuple_rev {t sl : Addr} {items : Array Value} {vs : Value} {Q : Value → Shared → Prop} (ht : IsTup s.heap t items) (hs : s.heap.IsSliceOf sl .none .none vs) (ps : IsPart vs (some (-1)))
    (h : Q (.ref s.heap.objs.size) { s with heap := s.heap.push { cls := .type "tuple", data := .seq items.toList.reverse.toArray } })
    (hsz : items.size ≤ sizeLine) : wpAny (model prog w) A (getItem (.ref t) (.ref sl)) Q E s := by
  have htake : sizeOk (.seq items.toList.reverse.toArray) := by
    show items.toList.reverse.toArray.size ≤ sizeLine
    rw [List.size_toArray, List.length_reverse, Array.length_toList]
    exact hsz
  obtain ⟨os, hos, hcs, hds⟩ := id hs
  have hTs : s.TypeIs (.ref sl) "slice" := ⟨os, hos, hcs⟩
  unfold getItem
  try with_reducible refine wpAny_holding ?_
  first | refine wpAny_bind (wpAny_pure ?_) | skip
  refine wpAny_bind (wpAny_sequenceKey ht.typeIs (by decide) ?_)
  refine wpAny_bind (wpAny_callSpecial?_slot (name := Str.ofString "__getitem__") ht.typeIs PyProof.Rows.slot_tuple_getitem
    (wpAny_call_entry PyProof.Rows.slot_tuple_getitem ht.typeIs entry_tuple_getitem ?_ (args_tuple_getitem _ _)))
  show wpAny _ _ (Builtin.Tuple.tupleItemsOf (.ref t) >>= _) _ _ s
  refine wpAny_bind (tupleItemsOf_ ht ?_)
  refine wpAny_bind (wpAny_typeOf hTs ?_)
  rw [if_pos (by decide)]
  unfold Builtin.Slice.sliceApplied Builtin.Slice.sliceFields
  refine wpAny_bind (wpAny_bind (wpAny_bind (wpAny_field hos hds (x := .none) rfl (wpAny_bind (wpAny_field hos hds (x := .none) rfl (wpAny_bind (wpAny_field hos hds (x := vs) rfl (wpAny_pure ?_))))))))
  refine wpAny_bind (slicePart_ ps ?_)
  show wpAny _ _ (if ((-1 : Int) == 0) = true then _ else _) _ _ s
  rw [if_neg (by decide)]
  refine wpAny_bind (slicePart_none (wpAny_bind (slicePart_none (wpAny_bind (wpAny_pure ?_)))))
  show wpAny _ _ (match Builtin.Slice.sliceAdjust none none (-1) (items.size : Int) with | (lo, hi) => pure (lo, (-1 : Int), Builtin.Slice.slicePlaces lo hi (-1))) _ _ s
  rw [adjust_rev]
  show wpAny _ _ (pure ((items.size : Int) - 1, (-1 : Int), Builtin.Slice.slicePlaces ((items.size : Int) - 1) (-1) (-1))) _ _ s
  rw [places_rev]
  refine wpAny_pure ?_
  have hno : ¬ ((((items.size : Int) - 1) == 0 && (-1 : Int) == 1 && items.size == items.size) = true) := by
    rw [show ((-1 : Int) == 1) = false by decide, Bool.and_false, Bool.false_and]; simp
  show wpAny _ _ (if (((items.size : Int) - 1) == 0 && (-1 : Int) == 1 && items.size == items.size) = true then _ else _) _ _ s
  rw [if_neg hno, pick_rev]
  first
    | exact wpAny_bind (m := Builtin.Tuple.tupleExact _) (wpAny_newObj_type (wpAny_pure ⟨_, rfl, wpAny_pure h⟩) htake)
    | exact wpAny_bind (m := Builtin.Tuple.tupleExact _) (wpAny_newObj_type (wpAny_bind (wpAny_pure (wpAny_pure ⟨_, rfl, wpAny_pure h⟩))) htake)
    | exact wpAny_bind (wpAny_bind (m := Builtin.Tuple.tupleExact _) (wpAny_newObj_type (wpAny_pure (wpAny_pure ⟨_, rfl, wpAny_pure h⟩)) htake))
    | exact wpAny_bind (wpAny_bind (m := Builtin.Tuple.tupleExact _) (wpAny_newObj_type (wpAny_pure ⟨_, rfl, wpAny_pure h⟩) htake))
end
section
variable {X : Cx}
/-- xs[::-1] of a list or a tuple -/
def tRevS (K : PySem.W.Frag) (te : TE) : TE := fun σ H Q => te σ H fun x H1 => ∃ a xs, x = .ref a ∧ ((SqL K H1 a xs ∧ ∀ p, H1 p = none → Q (.ref p) (upd H1 p (.lst xs.reverse))) ∨ (SqT K H1 a xs ∧ ∀ p, H1 p = none → Q (.ref p) (upd H1 p (.tup xs.reverse))))
theorem pe_revS {e : Expr} {te : TE} {k : Nat} {p1 p2 p3 pos : Pos} (he : PE X e te) : PE X (.Subscript e (.Slice none none (some (.UnaryOp .USub (.Constant (.int 1) k p1) p2)) p3) pos) (tRevS X.K te) := by
  refine ⟨fun pins s σ H Q I h => ?_⟩
  refine Subscript_ (thn (he.run pins s σ H _ I h) fun v s1 ⟨x, H1, I1, r1, q1⟩ => ?_)
  obtain ⟨a, xs, ex, hxq⟩ := q1
  subst ex
  cases r1
  have hst : PO X (some (.UnaryOp .USub (.Constant (.int 1) k p1) p2)) (tPart (tUn (rU fun i => .int (-i)) (tC (.int 1)))) := po_some (pe_un un_neg pe_int)
  refine wpAny_Slice (thn (po_none.run pins s1 σ H1 (fun o H2 => o = none ∧ H2 = H1) I1 ⟨rfl, rfl⟩) fun vl s2 ⟨l, H2, I2, pl, el, e2⟩ => ?_)
  subst el e2
  refine thn (po_none.run pins s2 σ H2 (fun o H3 => o = none ∧ H3 = H2) I2 ⟨rfl, rfl⟩) fun vu s3 ⟨u, H3, I3, pu, eu, e3⟩ => ?_
  subst eu e3
  refine thn (hst.run pins s3 σ H3 (fun o H4 => o = some (-1) ∧ H4 = H3) I3 ⟨1, rfl, -1, rfl, rfl, rfl⟩) fun vs s4 ⟨o, H4, I4, ps, eo, e4⟩ => ?_
  subst eo e4
  have I5 : Inv X pins σ H4 { s4 with heap := s4.heap.push { cls := .type "slice", data := .fields #[vl, vu, vs] } } := I4.kept (t' := s4.toks) fun b ob q => Heap.get?_push_of_some _ q
  show wpAny (model X.prog X.w) X.A (subscriptTail e (.Slice none none (some (.UnaryOp .USub (.Constant (.int 1) k p1) p2)) p3) (.ref a) (.ref s4.heap.objs.size)) (EP X pins σ Q) X.xe { s4 with heap := s4.heap.push { cls := .type "slice", data := .fields #[vl, vu, vs] } }
  rcases hxq with ⟨hx, q⟩ | ⟨hx, q⟩
  · obtain ⟨its, r, ht, hz⟩ := I5.list hx
    have hlen := r.length
    refine tail_any (ops := [.ref a, .ref s4.heap.objs.size]) ht.isList.typeIs (PySem.slot_list_getitem.lookup) ?_ (by with_unfolding_all rfl)
    refine wpAny_getItem_list_slice ht.isList (Heap.IsSliceOf.new _ vl vu vs) pl pu ps (by decide) ?_ (by rw [List.size_toArray]; omega)
    rw [PySem.W.krv_pick]
    refine ⟨.ref _, _, I5.laid (t' := s4.toks) (o := .lst xs.reverse) (fun b ob q => Heap.get?_push_of_some _ q) (Nat.le_refl _) ?_, rfl, q _ (I5.hok.fresh (Nat.le_refl _))⟩
    exact ⟨by rw [List.length_reverse]; exact hz, _, 0, r.reverse, Heap.get?_push_size _ rfl⟩
  · obtain ⟨its, r, ht, hz⟩ := I5.tuple hx
    have hlen := r.length
    cases pl
    cases pu
    refine tail_any (ops := [.ref a, .ref s4.heap.objs.size]) ht.typeIs (PyProof.Rows.slot_tuple_getitem.lookup) ?_ (by with_unfolding_all rfl)
    refine getItem_tuple_rev ht (Heap.IsSliceOf.new _ .none .none vs) ps ?_ (by rw [List.size_toArray]; omega)
    refine ⟨.ref _, _, I5.laid (t' := s4.toks) (o := .tup xs.reverse) (fun b ob q => Heap.get?_push_of_some _ q) (Nat.le_refl _) ?_, rfl, q _ (I5.hok.fresh (Nat.le_refl _))⟩
    exact ⟨by rw [List.length_reverse]; exact hz, _, r.reverse, IsTup.new _ _⟩
end
def pRevS : G1 := fun x R => match x with
  | .lst xs => R (.lst xs.reverse)
  | .tup xs => R (.tup xs.reverse)
  | _ => False
section
variable [Mach] [CN] [Xw] {X : Cx} {e : Expr} {fe : WE} {k : Nat} {p1 p2 p3 pos : Pos}
theorem q_revS (he : QE X e fe) : QE X (.Subscript e (.Slice none none (some (.UnaryOp .USub (.Constant (.int 1) k p1) p2)) p3) pos) (w1 pRevS fe) := PE.imp (pe_revS he) fun σ H Q ⟨am, Hs, ts, n, R, sp, re, h, k⟩ => by
  refine ⟨am, Hs, ts, n, _, sp, re, h, fun x n1 hx vx Hs1 H1 e1 rx => ?_⟩
  have k1 : Done X.K am Hs1 H1 n1 (fun z => R z n1) Q := fun z hz v Hs' H' e2 r => k z n1 hz v Hs' H' (e1.trans e2) r
  cases x with
  | lst xs =>
    simp only [Rep] at rx
    obtain ⟨a, vs, rfl, h1, h2⟩ := rx
    exact ⟨a, vs, rfl, .inl ⟨SqL.of (e1.spl.sub _ _ h1), fun p hp => k1.lay e1.spl hx hp _ (rep_lst_new e1.spl hp h2.reverse)⟩⟩
  | tup xs =>
    simp only [Rep] at rx
    obtain ⟨a, vs, rfl, h1, h2⟩ := rx
    exact ⟨a, vs, rfl, .inr ⟨same_sqT e1.spl.sub h1, fun p hp => k1.lay e1.spl hx hp _ (rep_tup_new e1.spl hp h2.reverse)⟩⟩
  | _ => exact hx.elim
end
def dRevS : T → D T
  | .lst xs => .ok (.lst xs.reverse)
  | .tup xs => .ok (.tup xs.reverse)
  | _ => .bad
theorem p_revS : P1 pRevS dRevS := fun E x n R h => by
  unfold dRevS at h
  split at h
  · exact h
  · exact h
  · exact h.elim
end TL
namespace K13
open PySem L2 TL
local instance : Mach := machA
def famL : List (Str × List Str) := [("Invalid", ["Invalid", "ValueError"]), ("BadOperator", ["BadOperator", "Invalid", "ValueError"]), ("BadProgram", ["BadProgram", "Invalid", "ValueError"]), ("Program", ["Program"])]
def fldL : List (Str × List Str) := [("Invalid", []), ("BadOperator", ["reason"]), ("BadProgram", ["place"]), ("Program", ["inputs", "statements", "tells", "outputs", "bits", "rows"])]
def excL : List Str := ["Invalid", "BadOperator", "BadProgram"]
local instance xcl : XCl := ⟨fun c => famL.lookup c, fun c => (fldL.lookup c).getD [], fun c => excL.contains c, ["Program"], []⟩
def N_is_number : List Str := ["value", "bound"]
theorem st_is_number (t0 t1 : T) : startT N_is_number [t0, t1] = [.tr t0, .tr t1] := rfl
def W_is_number (RE : XE) : WS :=
  (wsRet (wAndV (wN pIsi (wCons (wVar 0) (wCons (wC (.ty "int")) wNil))) (wAndV (wNotV (wN pIsi (wCons (wVar 0) (wCons (wC (.ty "bool")) wNil)))) (wChain pLe pLt (wC (.int 0)) (wVar 0) (wVar 1)))))
def N_is_bit : List Str := ["value"]
theorem st_is_bit (t0 : T) : startT N_is_bit [t0] = [.tr t0] := rfl
def W_is_bit (RE : XE) (F_is_number : FT) : WS :=
  (wsRet (wCall RE F_is_number (wCons (wVar 0) (wCons (wC (.int 2)) wNil))))
def N_is_ascending : List Str := ["value", "bound", "one", "k"]
theorem st_is_ascending (t0 t1 : T) : startT N_is_ascending [t0, t1] = [.tr t0, .tr t1, .no, .no] := rfl
def W_is_ascending (RE : XE) (F_is_number : FT) : WS :=
  (wsSeq (wsIf (wTOr (wTNot (wB (wN pIsi (wCons (wVar 0) (wCons (wC (.ty "tuple")) wNil))))) (wTNot (wB (wN (pAllAny fun bs => bs.all id) (wCons (wLc (wiSeq (wVar 0)) (.one 2) wTrue (wCall noX F_is_number (wCons (wVar 2) (wCons (wVar 1) wNil))) [2]) wNil))))) (wsRet (wC (.bl false))) wsNext)
    (wsRet (wN (pAllAny fun bs => bs.all id) (wCons (wLc (wiRng1 (wCons (w2 pSub (wN pLen (wCons (wVar 0) wNil)) (wC (.int 1))) wNil)) (.one 3) wTrue (w2 pLt (w2 pIx (wVar 0) (wVar 3)) (w2 pIx (wVar 0) (w2 pAdd (wVar 3) (wC (.int 1))))) [3]) wNil))))
def N_is_parity : List Str := ["value", "many"]
theorem st_is_parity (t0 t1 : T) : startT N_is_parity [t0, t1] = [.tr t0, .tr t1] := rfl
def W_is_parity (RE : XE) (F_is_bit : FT) (F_is_ascending : FT) : WS :=
  (wsRet (wAndV (wN pIsi (wCons (wVar 0) (wCons (wC (.ty "tuple")) wNil))) (wAndV (w2 pEq (wN pLen (wCons (wVar 0) wNil)) (wC (.int 2))) (wAndV (wCall RE F_is_bit (wCons (w2 pIx (wVar 0) (wC (.int 0))) wNil)) (wCall RE F_is_ascending (wCons (w2 pIx (wVar 0) (wC (.int 1))) (wCons (wVar 1) wNil)))))))
def N_is_line : List Str := ["value"]
theorem st_is_line (t0 : T) : startT N_is_line [t0] = [.tr t0] := rfl
def W_is_line (RE : XE) : WS :=
  (wsRet (wAndV (wN pIsi (wCons (wVar 0) (wCons (wC (.ty "int")) wNil))) (wAndV (wNotV (wN pIsi (wCons (wVar 0) (wCons (wC (.ty "bool")) wNil)))) (wChain pLe pLe (wC (.int 0)) (wVar 0) (wC (.int 9))))))
def N_are_lines : List Str := ["value", "line", "k"]
theorem st_are_lines (t0 : T) : startT N_are_lines [t0] = [.tr t0, .no, .no] := rfl
def W_are_lines (RE : XE) (F_is_line : FT) : WS :=
  (wsSeq (wsIf (wTOr (wTNot (wB (wN pIsi (wCons (wVar 0) (wCons (wC (.ty "tuple")) wNil))))) (wTNot (wB (wN (pAllAny fun bs => bs.all id) (wCons (wLc (wiSeq (wVar 0)) (.one 1) wTrue (wCall noX F_is_line (wCons (wVar 1) wNil)) [1]) wNil))))) (wsRet (wC (.bl false))) wsNext)
    (wsRet (wN (pAllAny fun bs => bs.all id) (wCons (wLc (wiRng1 (wCons (w2 pSub (wN pLen (wCons (wVar 0) wNil)) (wC (.int 1))) wNil)) (.one 2) wTrue (w2 pLt (w2 pIx (wVar 0) (wVar 2)) (w2 pIx (wVar 0) (w2 pAdd (wVar 2) (wC (.int 1))))) [2]) wNil))))
def N_is_factor : List Str := ["text"]
theorem st_is_factor (t0 : T) : startT N_is_factor [t0] = [.tr t0] := rfl
def W_is_factor (RE : XE) : WS :=
  (wsRet (wAndV (w2 pEq (wN pLen (wCons (wVar 0) wNil)) (wC (.int 2))) (wAndV (w2 (pInB id) (w2 pIx (wVar 0) (wC (.int 0))) (wC (.str "XYZ"))) (w2 (pInB id) (w2 pIx (wVar 0) (wC (.int 1))) (wC (.str "0123456789"))))))
def N_is_word : List Str := ["value", "factors", "factor", "k"]
theorem st_is_word (t0 : T) : startT N_is_word [t0] = [.tr t0, .no, .no, .no] := rfl
def W_is_word (RE : XE) (F_is_factor : FT) : WS :=
  (wsSeq (wsIf (wTNot (wB (wN pIsi (wCons (wVar 0) (wCons (wC (.ty "str")) wNil))))) (wsRet (wC (.bl false))) wsNext)
    (wsSeq (wsIf (wB (w2 pEq (wVar 0) (wC (.str "I")))) (wsRet (wC (.bl true))) wsNext)
    (wsSeq (wsSet 1 (wMk kdStr mSplit (wVar 0) (wCons (wC (.str " ")) wNil)))
    (wsSeq (wsIf (wTNot (wB (wN (pAllAny fun bs => bs.all id) (wCons (wLc (wiSeq (wVar 1)) (.one 2) wTrue (wCall noX F_is_factor (wCons (wVar 2) wNil)) [2]) wNil)))) (wsRet (wC (.bl false))) wsNext)
    (wsRet (wN (pAllAny fun bs => bs.all id) (wCons (wLc (wiRng1 (wCons (w2 pSub (wN pLen (wCons (wVar 1) wNil)) (wC (.int 1))) wNil)) (.one 3) wTrue (w2 pLt (w2 pIx (w2 pIx (wVar 1) (wVar 3)) (wC (.int 1))) (w2 pIx (w2 pIx (wVar 1) (w2 pAdd (wVar 3) (wC (.int 1)))) (wC (.int 1)))) [3]) wNil)))))))
def N_is_operator : List Str := ["value"]
theorem st_is_operator (t0 : T) : startT N_is_operator [t0] = [.tr t0] := rfl
def W_is_operator (RE : XE) (F_is_word : FT) : WS :=
  (wsRet (wAndV (wN pIsi (wCons (wVar 0) (wCons (wC (.ty "str")) wNil))) (wCall RE F_is_word (wCons (wIf (wB (wMk kdStr (mS1B Txt.startswith) (wVar 0) (wCons (wC (.str "-")) wNil))) (wSl (wVar 0) (wPart (wC (.int 1))) wNoPart) (wVar 0)) wNil))))
def N_need_operator : List Str := ["value"]
theorem st_need_operator (t0 : T) : startT N_need_operator [t0] = [.tr t0] := rfl
def W_need_operator (RE : XE) (F_is_operator : FT) : WS :=
  (wsIf (wTNot (wB (wCall RE F_is_operator (wCons (wVar 0) wNil)))) (wsRaise RE "BadOperator" "reason" (wC (.str "no operator"))) wsNext)
def N_word_in : List Str := ["operator"]
theorem st_word_in (t0 : T) : startT N_word_in [t0] = [.tr t0] := rfl
def W_word_in (RE : XE) : WS :=
  (wsRet (wIf (wB (wMk kdStr (mS1B Txt.startswith) (wVar 0) (wCons (wC (.str "-")) wNil))) (wSl (wVar 0) (wPart (wC (.int 1))) wNoPart) (wVar 0)))
def N_lines_of : List Str := ["operator", "word", "factor"]
theorem st_lines_of (t0 : T) : startT N_lines_of [t0] = [.tr t0, .no, .no] := rfl
def W_lines_of (RE : XE) (F_need_operator : FT) (F_word_in : FT) : WS :=
  (wsSeq (wsExpr (wCall RE F_need_operator (wCons (wVar 0) wNil)))
    (wsSeq (wsSet 1 (wCall RE F_word_in (wCons (wVar 0) wNil)))
    (wsRet (wIf (wB (w2 pNe (wVar 1) (wC (.str "I")))) (wN pTupOf (wCons (wLc (wiSeq (wMk kdStr mSplit (wVar 1) (wCons (wC (.str " ")) wNil))) (.one 2) wTrue (wMk kdStr mSIdx (wC (.str "0123456789")) (wCons (w2 pIx (wVar 2) (wC (.int 1))) wNil)) [2]) wNil)) (wN pTup wNil)))))
def N_is_gate : List Str := ["name", "lines", "line"]
theorem st_is_gate (t0 t1 : T) : startT N_is_gate [t0, t1] = [.tr t0, .tr t1, .no] := rfl
def W_is_gate (RE : XE) (F_is_line : FT) : WS :=
  (wsSeq (wsIf (wTOr (wTNot (wB (wN pIsi (wCons (wVar 0) (wCons (wC (.ty "str")) wNil))))) (wTOr (wTNot (wB (wN pIsi (wCons (wVar 1) (wCons (wC (.ty "tuple")) wNil))))) (wTNot (wB (wN (pAllAny fun bs => bs.all id) (wCons (wLc (wiSeq (wVar 1)) (.one 2) wTrue (wCall noX F_is_line (wCons (wVar 2) wNil)) [2]) wNil)))))) (wsRet (wC (.bl false))) wsNext)
    (wsSeq (wsIf (wB (w2 (pInB id) (wVar 0) (wC (.tup [(.str "h"), (.str "s"), (.str "sdg"), (.str "x"), (.str "y"), (.str "z")])))) (wsRet (w2 pEq (wN pLen (wCons (wVar 1) wNil)) (wC (.int 1)))) wsNext)
    (wsRet (wAndV (w2 (pInB id) (wVar 0) (wC (.tup [(.str "cx"), (.str "cz"), (.str "swap")]))) (wAndV (w2 pEq (wN pLen (wCons (wVar 1) wNil)) (wC (.int 2))) (w2 pNe (w2 pIx (wVar 1) (wC (.int 0))) (w2 pIx (wVar 1) (wC (.int 1)))))))))
def N_is_measurement : List Str := ["statement"]
theorem st_is_measurement (t0 : T) : startT N_is_measurement [t0] = [.tr t0] := rfl
def W_is_measurement (RE : XE) : WS :=
  (wsRet (w2 pEq (w2 pIx (wVar 0) (wC (.int 0))) (wC (.str "measure"))))
def N_acts_on : List Str := ["operator", "alive", "line"]
theorem st_acts_on (t0 t1 : T) : startT N_acts_on [t0, t1] = [.tr t0, .tr t1, .no] := rfl
def W_acts_on (RE : XE) (F_word_in : FT) (F_lines_of : FT) : WS :=
  (wsRet (wAndV (w2 pNe (wCall RE F_word_in (wCons (wVar 0) wNil)) (wC (.str "I"))) (wN (pAllAny fun bs => bs.all id) (wCons (wLc (wiSeq (wCall RE F_lines_of (wCons (wVar 0) wNil))) (.one 2) wTrue (w2 (pInB id) (wVar 2) (wVar 1)) [2]) wNil))))
def N_alive_behind : List Str := ["statement", "alive", "many", "name", "first", "is_right", "line"]
theorem st_alive_behind (t0 t1 t2 : T) : startT N_alive_behind [t0, t1, t2] = [.tr t0, .tr t1, .tr t2, .no, .no, .no, .no] := rfl
def W_alive_behind (RE : XE) (F_is_gate : FT) (F_is_word : FT) (F_acts_on : FT) (F_is_parity : FT) (F_is_operator : FT) (F_is_line : FT) : WS :=
  (wsSeq (wsIf (wTOr (wTNot (wB (wN pIsi (wCons (wVar 0) (wCons (wC (.ty "tuple")) wNil))))) (wTOr (wB (w2 pLt (wN pLen (wCons (wVar 0) wNil)) (wC (.int 2)))) (wTNot (wB (wN pIsi (wCons (w2 pIx (wVar 0) (wC (.int 0))) (wCons (wC (.ty "str")) wNil))))))) (wsRet (wC .non)) wsNext)
    (wsSeq (wsAsg (wSl (wVar 0) wNoPart (wPart (wC (.int 2)))) (wgTup 2 (wgCons (wgName 3) (wgCons (wgName 4) wgNil))))
    (wsSeq (wsIf (wB (w2 pEq (wVar 3) (wC (.str "gate")))) (wsSeq (wsSet 5 (wAndV (wCall RE F_is_gate (wCons (wVar 4) (wCons (wSl (wVar 0) (wPart (wC (.int 2))) wNoPart) wNil))) (wN (pAllAny fun bs => bs.all id) (wCons (wLc (wiSeq (wSl (wVar 0) (wPart (wC (.int 2))) wNoPart)) (.one 6) wTrue (w2 (pInB id) (wVar 6) (wVar 1)) [6]) wNil))))
    (wsRet (wIf (wB (wVar 5)) (wVar 1) (wC .non)))) wsNext)
    (wsSeq (wsIf (wB (w2 pEq (wVar 3) (wC (.str "correct")))) (wsSeq (wsSet 5 (wAndV (w2 pEq (wN pLen (wCons (wVar 0) wNil)) (wC (.int 3))) (wAndV (wCall RE F_is_word (wCons (wVar 4) wNil)) (wAndV (wCall RE F_acts_on (wCons (wVar 4) (wCons (wVar 1) wNil))) (wCall RE F_is_parity (wCons (w2 pIx (wVar 0) (wC (.int 2))) (wCons (wVar 2) wNil)))))))
    (wsRet (wIf (wB (wVar 5)) (wVar 1) (wC .non)))) wsNext)
    (wsSeq (wsIf (wB (w2 pGt (wN pLen (wCons (wVar 0) wNil)) (wC (.int 2)))) (wsRet (wC .non)) wsNext)
    (wsSeq (wsIf (wB (w2 pEq (wVar 3) (wC (.str "measure")))) (wsRet (wIf (wTAnd (wB (w2 pLt (wVar 2) (wC (.int 10)))) (wTAnd (wB (wCall RE F_is_operator (wCons (wVar 4) wNil))) (wB (wCall RE F_acts_on (wCons (wVar 4) (wCons (wVar 1) wNil)))))) (wVar 1) (wC .non))) wsNext)
    (wsSeq (wsIf (wTOr (wB (w2 (pInB not) (wVar 3) (wN pTup (wCons (wC (.str "new")) (wCons (wC (.str "drop")) wNil))))) (wTOr (wTNot (wB (wCall RE F_is_line (wCons (wVar 4) wNil)))) (wB (w2 pNe (w2 (pInB id) (wVar 4) (wVar 1)) (w2 pEq (wVar 3) (wC (.str "drop"))))))) (wsRet (wC .non)) wsNext)
    (wsSeq (wsIf (wB (w2 pEq (wVar 3) (wC (.str "drop")))) (wsRet (wN pTupOf (wCons (wLc (wiSeq (wVar 1)) (.one 6) (wB (w2 pNe (wVar 6) (wVar 4))) (wVar 6) [6]) wNil))) wsNext)
    (wsRet (wIf (wB (w2 pLt (wN pLen (wCons (wVar 1) wNil)) (wC (.int 6)))) (wN pTupOf (wCons (wN pSortX (wCons (wN pLst (wStar (wVar 1) (wCons (wVar 4) wNil))) wNil)) wNil)) (wC .non)))))))))))
def N__law_parts : List Str := ["_law_m", "_law_a", "_law_b", "_law_bit", "_law_x", "_law_z", "_law_deeds", "_law_base", "_law_found", "_law_bends", "_law_at", "_law_fresh"]
theorem st__law_parts (t0 : T) : startT N__law_parts [t0] = [.tr t0, .no, .no, .no, .no, .no, .no, .no, .no, .no, .no, .no] := rfl
def W__law_parts (RE : XE) : WS :=
  (wsSeq (wsSet 1 (wCall RE F_next (wCons (wVar 0) (wCons (wC (.int 5)) wNil))))
    (wsSeq (wsPar 2 3 (wCons (w2 pAdd (w2 pAdd (wVar 1) (wC (.int 1))) (wCall RE F_next (wCons (wVar 0) (wCons (wC (.int 4)) wNil)))) (wCons (wCall RE F_next (wCons (wVar 0) (wCons (wC (.int 2)) wNil))) wNil)))
    (wsSeq (wsPar 4 5 (wCons (w2 pAdd (wC (.str "X")) (wN pStr1 (wCons (wVar 1) wNil))) (wCons (w2 pAdd (wC (.str "Z")) (wN pStr1 (wCons (wVar 2) wNil))) wNil)))
    (wsSeq (wsSet 6 (wN pLst (wCons (wN pTup (wCons (wC (.str "gate")) (wCons (wC (.str "cx")) (wCons (wVar 1) (wCons (wVar 2) wNil))))) (wCons (wN pTup (wCons (wC (.str "measure")) (wCons (wVar 5) wNil))) (wCons (wN pTup (wCons (wC (.str "gate")) (wCons (wC (.str "h")) (wCons (wVar 1) wNil)))) (wCons (wN pTup (wCons (wC (.str "measure")) (wCons (w2 pAdd (w2 pAdd (wVar 4) (wC (.str " "))) (wVar 5)) wNil))) wNil))))))
    (wsSeq (wsSet 6 (w2 pAdd (wVar 6) (wN pLst (wCons (wN pTup (wCons (wC (.str "correct")) (wCons (wVar 4) (wCons (wN pTup (wCons (wVar 3) (wCons (wN pTup (wCons (wC (.int 0)) (wCons (wC (.int 1)) wNil))) wNil))) wNil)))) (wCons (wN pTup (wCons (wC (.str "correct")) (wCons (wVar 5) (wCons (wN pTup (wCons (wC (.int 0)) (wCons (wN pTup (wCons (wC (.int 1)) wNil)) wNil))) wNil)))) (wCons (wN pTup (wCons (wC (.str "drop")) (wCons (wVar 2) wNil))) wNil))))))
    (wsSeq (wsSet 7 (wN pTup (wCons (wN pTup (wCons (wVar 1) (wCons (wVar 2) wNil))) (wCons (wN pTupOf (wCons (wVar 6) wNil)) (wCons (wN pTup (wCons (wN pTup (wCons (wVar 3) (wCons (wN pTup (wCons (wC (.int 0)) wNil)) wNil))) (wCons (wN pTup (wCons (wC (.int 1)) (wCons (wN pTup (wCons (wC (.int 0)) (wCons (wC (.int 1)) wNil))) wNil))) wNil))) wNil)))))
    (wsSeq (wsOwn 8 (wN pLst (wCons (wN pTup (wCons (wN pTup (wCons (wVar 1) (wCons (wVar 2) wNil))) (wCons (wSl (w2 pIx (wVar 7) (wC (.int 1))) wNoPart (wPart (w1 pNeg (wC (.int 1))))) (wCons (w2 pIx (wVar 7) (wC (.int 2))) wNil)))) (wCons (wN pTup (wCons (wN pTup (wCons (wVar 1) (wCons (wVar 2) wNil))) (wCons (w2 pIx (wVar 7) (wC (.int 1))) (wCons (wSl (w2 pIx (wVar 7) (wC (.int 2))) wNoPart (wPart (wC (.int 1)))) wNil)))) (wCons (wN pTup (wCons (wN pTup (wCons (wVar 1) (wCons (wVar 2) wNil))) (wCons (w2 pIx (wVar 7) (wC (.int 1))) (wCons (w1 pRevS (w2 pIx (wVar 7) (wC (.int 2)))) wNil)))) wNil)))))
    (wsSeq (wsApp 8 (wN pTup (wCons (wN pTup (wCons (wVar 1) (wCons (wVar 2) wNil))) (wCons (w2 pIx (wVar 7) (wC (.int 1))) (wCons (wN pTup (wCons (wN pTup (wCons (w2 pSub (wC (.int 1)) (wVar 3)) (wCons (wN pTup (wCons (wC (.int 0)) wNil)) wNil))) (wCons (wN pTup (wCons (wC (.int 1)) (wCons (wN pTup (wCons (wC (.int 0)) (wCons (wC (.int 1)) wNil))) wNil))) wNil))) wNil)))))
    (wsSeq (wsSet 9 (wN pLst (wCons (wN pTup (wCons (wC (.int 0)) (wCons (wN pTup (wCons (wC (.str "gate")) (wCons (wC (.str "cx")) (wCons (wVar 2) (wCons (wVar 1) wNil))))) wNil))) (wCons (wN pTup (wCons (wC (.int 0)) (wCons (wN pTup (wCons (wC (.str "gate")) (wCons (wC (.str "cz")) (wCons (wVar 1) (wCons (wVar 2) wNil))))) wNil))) (wCons (wN pTup (wCons (wC (.int 1)) (wCons (wN pTup (wCons (wC (.str "measure")) (wCons (w2 pAdd (wC (.str "-")) (wVar 5)) wNil))) wNil))) (wCons (wN pTup (wCons (wC (.int 6)) (wCons (wN pTup (wCons (wC (.str "drop")) (wCons (wVar 1) wNil))) wNil))) wNil))))))
    (wsSeq (wsSet 9 (w2 pAdd (wVar 9) (wN pLst (wCons (wN pTup (wCons (wC (.int 2)) (wCons (wN pTup (wCons (wC (.str "gate")) (wCons (wC (.str "s")) (wCons (wVar 1) wNil)))) wNil))) (wCons (wN pTup (wCons (wC (.int 4)) (wCons (wN pTup (wCons (wC (.str "correct")) (wCons (wVar 4) (wCons (wN pTup (wCons (w2 pSub (wC (.int 1)) (wVar 3)) (wCons (wN pTup (wCons (wC (.int 0)) (wCons (wC (.int 1)) wNil))) wNil))) wNil)))) wNil))) (wCons (wN pTup (wCons (wC (.int 4)) (wCons (wN pTup (wCons (wC (.str "correct")) (wCons (wVar 4) (wCons (wN pTup (wCons (wVar 3) (wCons (wN pTup (wCons (wC (.int 0)) wNil)) wNil))) wNil)))) wNil))) wNil))))))
    (wsSeq (wsFor (wiSeq (wVar 9)) (wgTup 2 (wgCons (wgName 10) (wgCons (wgName 11) wgNil))) (wsApp 8 (wN pTup (wCons (wN pTup (wCons (wVar 1) (wCons (wVar 2) wNil))) (wCons (w2 pAdd (w2 pAdd (wSl (w2 pIx (wVar 7) (wC (.int 1))) wNoPart (wPart (wVar 10))) (wN pTup (wCons (wVar 11) wNil))) (wSl (w2 pIx (wVar 7) (wC (.int 1))) (wPart (w2 pAdd (wVar 10) (wC (.int 1)))) wNoPart)) (wCons (w2 pIx (wVar 7) (wC (.int 2))) wNil))))))
    (wsSeq (wsApp 8 (wN pTup (wCons (wN pTup (wCons (wVar 1) (wCons (wVar 2) wNil))) (wCons (w2 pAdd (w2 pAdd (wSl (w2 pIx (wVar 7) (wC (.int 1))) wNoPart (wPart (wC (.int 4)))) (wN pTup (wCons (w2 pIx (w2 pIx (wVar 7) (wC (.int 1))) (wC (.int 5))) (wCons (w2 pIx (w2 pIx (wVar 7) (wC (.int 1))) (wC (.int 4))) wNil)))) (wSl (w2 pIx (wVar 7) (wC (.int 1))) (wPart (wC (.int 6))) wNoPart)) (wCons (w2 pIx (wVar 7) (wC (.int 2))) wNil)))))
    (wsSeq (wsApp 8 (wIf (wB (w2 pLt (wVar 2) (wC (.int 9)))) (wN pTup (wCons (wN pTup (wCons (wVar 1) (wCons (wVar 2) (wCons (wC (.int 9)) wNil)))) (wCons (w2 pIx (wVar 7) (wC (.int 1))) (wCons (w2 pIx (wVar 7) (wC (.int 2))) wNil)))) (wN pTup (wCons (wN pTup (wCons (wVar 1) (wCons (wVar 2) wNil))) (wCons (w2 pAdd (w2 pIx (wVar 7) (wC (.int 1))) (wN pTup (wCons (wN pTup (wCons (wC (.str "gate")) (wCons (wC (.str "x")) (wCons (wVar 1) wNil)))) wNil))) (wCons (w2 pIx (wVar 7) (wC (.int 2))) wNil))))))
    (wsRet (wN pTup (wCons (wVar 7) (wCons (wVar 8) wNil)))))))))))))))))
def N__law_is_refused : List Str := ["_law_entering", "_law_deeds", "_law_spoken", "_law_found"]
theorem st__law_is_refused (t0 t1 t2 : T) : startT N__law_is_refused [t0, t1, t2] = [.tr t0, .tr t1, .tr t2, .no] := rfl
def W__law_is_refused (RE : XE) (F_Program_init : FTI) : WS :=
  (wsSeq (wsSet 3 (wC (.bl false)))
    (wsSeq (wsTry RE (fun RE => (wsExpr (wMake RE "Program" (List.drop 1 [(.tup [])]) F_Program_init (wCons (wVar 0) (wCons (wVar 1) (wCons (wVar 2) wNil)))))) (⟨["BadProgram"], none, (wsSet 3 (wC (.bl true)))⟩ :: []))
    (wsRet (wVar 3))))
def N__law_kinds_right : List Str := ["_law_a", "_law_look", "_law_mend", "_law_wrong", "_law_entering", "_law_deeds", "_law_spoken"]
theorem st__law_kinds_right (t0 : T) : startT N__law_kinds_right [t0] = [.tr t0, .no, .no, .no, .no, .no, .no] := rfl
def W__law_kinds_right (RE : XE) (F__law_is_refused : FT) : WS :=
  (wsSeq (wsSet 1 (wN pTup (wCons (wC (.str "measure")) (wCons (w2 pAdd (wC (.str "Z")) (wN pStr1 (wCons (wVar 0) wNil))) wNil))))
    (wsSeq (wsSet 2 (w2 pAdd (wC (.str "X")) (wN pStr1 (wCons (wVar 0) wNil))))
    (wsSeq (wsOwn 3 (wN pLst (wCons (wN pTup (wCons (wN pTup (wCons (wVar 0) wNil)) (wCons (wN pTup (wCons (wVar 1) (wCons (wN pTup (wCons (wC (.str "correct")) (wCons (wVar 2) (wCons (wN pTup (wCons (wC (.bl true)) (wCons (wN pTup (wCons (wC (.int 0)) wNil)) wNil))) wNil)))) wNil))) (wCons (wN pTup wNil) wNil)))) (wCons (wN pTup (wCons (wN pTup (wCons (wVar 0) wNil)) (wCons (wN pTup (wCons (wVar 1) (wCons (wN pTup (wCons (wC (.str "correct")) (wCons (wVar 2) (wCons (wN pTup (wCons (wC (.int 0)) (wCons (wN pTup (wCons (wC (.bl false)) wNil)) wNil))) wNil)))) wNil))) (wCons (wN pTup wNil) wNil)))) wNil))))
    (wsSeq (wsFrz (wsOwn 3 (w2 pCat (wVar 3) (wN pLst (wCons (wN pTup (wCons (wN pTup (wCons (wVar 0) wNil)) (wCons (wN pTup (wCons (wVar 1) (wCons (wN pTup (wCons (wC (.str "correct")) (wCons (wVar 2) (wCons (wN pTup (wCons (wC (.int 0)) (wCons (wN pLst (wCons (wC (.int 0)) wNil)) wNil))) wNil)))) wNil))) (wCons (wN pTup wNil) wNil)))) (wCons (wN pTup (wCons (wN pTup (wCons (wVar 0) wNil)) (wCons (wN pTup (wCons (wVar 1) (wCons (wN pTup (wCons (wC (.str "correct")) (wCons (wVar 2) (wCons (wN pLst (wCons (wC (.int 0)) (wCons (wN pTup (wCons (wC (.int 0)) wNil)) wNil))) wNil)))) wNil))) (wCons (wN pTup wNil) wNil)))) wNil))))))
    (wsSeq (wsFrz (wsOwn 3 (w2 pCat (wVar 3) (wN pLst (wCons (wN pTup (wCons (wN pTup (wCons (wVar 0) wNil)) (wCons (wN pTup (wCons (wVar 1) wNil)) (wCons (wN pTup (wCons (wN pTup (wCons (wC (.bl false)) (wCons (wN pTup (wCons (wC (.int 0)) wNil)) wNil))) wNil)) wNil)))) (wCons (wN pTup (wCons (wN pTup (wCons (wVar 0) wNil)) (wCons (wN pTup (wCons (wVar 1) wNil)) (wCons (wN pLst (wCons (wN pTup (wCons (wC (.int 0)) (wCons (wN pTup (wCons (wC (.int 0)) wNil)) wNil))) wNil)) wNil)))) (wCons (wN pTup (wCons (wN pTup (wCons (wVar 0) wNil)) (wCons (wN pLst (wCons (wVar 1) wNil)) (wCons (wN pTup wNil) wNil)))) (wCons (wN pTup (wCons (wN pLst (wCons (wVar 0) wNil)) (wCons (wN pTup wNil) (wCons (wN pTup wNil) wNil)))) wNil))))))))
    (wsSeq (wsFrz (wsOwn 3 (w2 pCat (wVar 3) (wN pLst (wCons (wN pTup (wCons (wN pTup (wCons (wVar 0) wNil)) (wCons (wN pTup (wCons (wN pLst (wCons (wC (.str "measure")) (wCons (w2 pAdd (wC (.str "Z")) (wN pStr1 (wCons (wVar 0) wNil))) wNil))) wNil)) (wCons (wN pTup wNil) wNil)))) (wCons (wN pTup (wCons (wN pTup (wCons (wC (.bl true)) wNil)) (wCons (wN pTup wNil) (wCons (wN pTup wNil) wNil)))) (wCons (wN pTup (wCons (wN pTup (wCons (wC (.int 1)) wNil)) (wCons (wN pTup (wCons (wN pTup (wCons (wC (.str "gate")) (wCons (wC (.str "h")) (wCons (wC (.bl true)) wNil)))) wNil)) (wCons (wN pTup wNil) wNil)))) wNil)))))))
    (wsSeq (wsFrz (wsOwn 3 (w2 pCat (wVar 3) (wN pLst (wCons (wN pTup (wCons (wN pTup (wCons (wC (.int 0)) (wCons (wC (.int 1)) wNil))) (wCons (wN pTup (wCons (wN pTup (wCons (wC (.str "gate")) (wCons (wC (.str "cx")) (wCons (wC (.bl false)) (wCons (wC (.bl true)) wNil))))) wNil)) (wCons (wN pTup wNil) wNil)))) (wCons (wN pTup (wCons (wN pTup (wCons (wC (.int 0)) wNil)) (wCons (wN pTup (wCons (wN pTup (wCons (wC (.str "drop")) (wCons (wC (.bl false)) wNil))) wNil)) (wCons (wN pTup wNil) wNil)))) wNil))))))
    (wsSeq (wsApp 3 (wN pTup (wCons (wN pTup wNil) (wCons (wN pTup (wCons (wN pTup (wCons (wC (.str "new")) (wCons (wC (.bl true)) wNil))) wNil)) (wCons (wN pTup wNil) wNil)))))
    (wsRet (w2 pEq (wLc (wiSeq (wVar 3)) (.many [4, 5, 6]) (wTNot (wB (wCall noX F__law_is_refused (wCons (wVar 4) (wCons (wVar 5) (wCons (wVar 6) wNil)))))) (wC (.int 1)) [4, 5, 6]) (wN pLst wNil)))))))))))
def N_law : List Str := ["_law_script", "_law_m", "_law_turn", "_law_base", "_law_others", "_law_made", "_law_entering", "_law_deeds", "_law_spoken", "_law_far", "_law_kept", "_law_again"]
theorem st_law (t0 : T) : startT N_law [t0] = [.tr t0, .no, .no, .no, .no, .no, .no, .no, .no, .no, .no, .no] := rfl
def W_law (RE : XE) (F__law_parts : FT) (F_Program_init : FTI) (F_Program_eq : FT) (F__law_kinds_right : FT) : WS :=
  (wsSeq (wsFor (wiRng1 (wCons (w2 pAdd (wC (.int 3)) (wN pMin2 (wCons (wN pLen (wCons (wVar 0) wNil)) (wCons (wC (.int 5)) wNil)))) wNil)) (wgName 2) (wsSeq (wsAsg (wCall RE F__law_parts (wCons (wVar 1) wNil)) (wgTup 2 (wgCons (wgName 3) (wgCons (wgName 4) wgNil))))
    (wsSeq (wsSet 5 (wMake RE "Program" (List.drop 1 [(.tup [])]) F_Program_init (wCons (w2 pIx (wVar 3) (wC (.int 0))) (wCons (w2 pIx (wVar 3) (wC (.int 1))) (wCons (w2 pIx (wVar 3) (wC (.int 2))) wNil)))))
    (wsSeq (wsIf (wTOr (wTNot (wB (w2 (gEqO [("Program", F_Program_eq)]) (wVar 5) (wMake RE "Program" (List.drop 1 [(.tup [])]) F_Program_init (wCons (w2 pIx (wVar 3) (wC (.int 0))) (wCons (wN pTupOf (wCons (wN pListOf (wCons (w2 pIx (wVar 3) (wC (.int 1))) wNil)) wNil)) (wCons (w2 pIx (wVar 3) (wC (.int 2))) wNil))))))) (wTOr (wB (w2 (gEqO [("Program", F_Program_eq)]) (wVar 5) (wVar 3))) (wB (w2 (gEqO [("Program", F_Program_eq)]) (wVar 5) (w2 pIx (wVar 3) (wC (.int 1))))))) (wsRet (wC (.bl false))) wsNext)
    (wsSeq (wsFor (wiSeq (wVar 4)) (wgTup 3 (wgCons (wgName 6) (wgCons (wgName 7) (wgCons (wgName 8) wgNil)))) (wsSeq (wsSet 9 (wMake RE "Program" (List.drop 1 [(.tup [])]) F_Program_init (wCons (wVar 6) (wCons (wVar 7) (wCons (wVar 8) wNil)))))
    (wsIf (wTOr (wB (w2 (gEqO [("Program", F_Program_eq)]) (wVar 5) (wVar 9))) (wTOr (wTNot (wB (w2 (gNeO [("Program", F_Program_eq)]) (wVar 5) (wVar 9)))) (wTOr (wB (w2 (gEqO [("Program", F_Program_eq)]) (wVar 9) (wVar 5))) (wB (w2 (gNeO [("Program", F_Program_eq)]) (wVar 9) (wMake RE "Program" (List.drop 1 [(.tup [])]) F_Program_init (wCons (wVar 6) (wCons (wVar 7) (wCons (wVar 8) wNil))))))))) (wsRet (wC (.bl false))) wsNext)))
    (wsSeq (wsOwn 10 (wN pListOf (wCons (w2 pIx (wVar 3) (wC (.int 1))) wNil)))
    (wsSeq (wsSet 11 (wMake RE "Program" (List.drop 1 [(.tup [])]) F_Program_init (wCons (w2 pIx (wVar 3) (wC (.int 0))) (wCons (wTupO 10) (wCons (w2 pIx (wVar 3) (wC (.int 2))) wNil)))))
    (wsSeq (wsAsg (wN pTup (wCons (wC (.str "gate")) (wCons (wC (.str "x")) (wCons (w2 pIx (w2 pIx (wVar 3) (wC (.int 0))) (wC (.int 0))) wNil)))) (wgStL 10 (wC (.int 0))))
    (wsFrz (wsSeq (wsIf (wTOr (wB (w2 (gNeO [("Program", F_Program_eq)]) (wVar 11) (wVar 5))) (wB (w2 pNe (w1 (gAttr "statements") (wVar 11)) (w2 pIx (wVar 3) (wC (.int 1)))))) (wsRet (wC (.bl false))) wsNext)
    (wsIf (wTNot (wB (wCall RE F__law_kinds_right (wCons (wCall RE F_next (wCons (wVar 1) (wCons (wC (.int 10)) wNil))) wNil)))) (wsRet (wC (.bl false))) wsNext)))))))))))
    (wsRet (wAndV (wNotV (w2 (gEqO [("Program", F_Program_eq)]) (wMake RE "Program" (List.drop 0 [(.tup [])]) F_Program_init (wCons (wN pTup wNil) (wCons (wN pTup wNil) wNil))) (wMake RE "Program" (List.drop 0 [(.tup [])]) F_Program_init (wCons (wN pTup (wCons (wC (.int 0)) wNil)) (wCons (wN pTup wNil) wNil))))) (w2 (gEqO [("Program", F_Program_eq)]) (wMake RE "Program" (List.drop 0 [(.tup [])]) F_Program_init (wCons (wN pTup wNil) (wCons (wN pTup wNil) wNil))) (wMake RE "Program" (List.drop 1 [(.tup [])]) F_Program_init (wCons (wN pTup wNil) (wCons (wN pTup wNil) (wCons (wN pTup wNil) wNil))))))))
def N_Program_init : List Str := ["self", "inputs", "statements", "tells", "rows", "many", "place", "statement", "alive", "one"]
theorem st_Program_init (t0 t1 t2 t3 : T) : startT N_Program_init [t0, t1, t2, t3] = [.tr t0, .tr t1, .tr t2, .tr t3, .no, .no, .no, .no, .no, .no] := rfl
def W_Program_init (RE : XE) (F_is_parity : FT) (F_alive_behind : FT) (F_is_measurement : FT) (F_are_lines : FT) : WIn :=
  (winSeq (wsIf (wTOr (wTNot (wB (wCall RE F_are_lines (wCons (wVar 1) wNil)))) (wTOr (wB (w2 pGt (wN pLen (wCons (wVar 1) wNil)) (wC (.int 6)))) (wTNot (wB (wN pIsi (wCons (wVar 2) (wCons (wC (.ty "tuple")) wNil))))))) (wsRaise RE "BadProgram" "place" (w1 pNeg (wC (.int 1)))) wsNext)
    (winSeq (wsParF [4, 5] (wfF (wN pLst (wCons (wVar 1) wNil)) (wfE (wC (.int 0)) wfNil)))
    (winSeq (wsFor (wiEnumX (wCons (wVar 2) wNil)) (wgTup 2 (wgCons (wgName 6) (wgCons (wgName 7) wgNil))) (wsSeq (wsSet 8 (wCall RE F_alive_behind (wCons (wVar 7) (wCons (wIxO 4 (w1 pNeg (wC (.int 1)))) (wCons (wVar 5) wNil)))))
    (wsSeq (wsIf (wTOr (wB (w2 (pIsB id) (wVar 8) (wC .non))) (wB (w2 pEq (wVar 6) (wC (.int 40))))) (wsRaise RE "BadProgram" "place" (wVar 6)) wsNext)
    (wsSeq (wsApp 4 (wVar 8))
    (wsAug 5 (wIf (wB (wCall RE F_is_measurement (wCons (wVar 7) wNil))) (wC (.int 1)) (wC (.int 0))) pIAdd)))))
    (winSeq (wsFrz (wsIf (wTOr (wTNot (wB (wN pIsi (wCons (wVar 3) (wCons (wC (.ty "tuple")) wNil))))) (wTOr (wB (w2 pGt (wN pLen (wCons (wVar 3) wNil)) (wC (.int 8)))) (wTNot (wB (wN (pAllAny fun bs => bs.all id) (wCons (wLc (wiSeq (wVar 3)) (.one 9) wTrue (wCall noX F_is_parity (wCons (wVar 9) (wCons (wVar 5) wNil))) [9]) wNil)))))) (wsRaise RE "BadProgram" "place" (wN pLen (wCons (wVar 2) wNil))) wsNext))
    (winTail (wtCons "inputs" (wVar 1) (wtCons "statements" (wVar 2) (wtCons "tells" (wVar 3) (wtCons "outputs" (w2 pIx (wVar 4) (w1 pNeg (wC (.int 1)))) (wtCons "bits" (wVar 5) (wtCons "rows" (wVar 4) wtNil)))))))))))
def N_Program_eq : List Str := ["self", "other"]
theorem st_Program_eq (t0 t1 : T) : startT N_Program_eq [t0, t1] = [.tr t0, .tr t1] := rfl
def W_Program_eq (RE : XE) : WS :=
  (wsSeq (wsIf (wTNot (wB (wN pIsiX (wCons (wVar 1) (wCons (wC (.cls "Program")) wNil))))) (wsRet (wC (.bl false))) wsNext)
    (wsRet (wAndV (w2 pEq (w1 (gAttr "inputs") (wVar 0)) (w1 (gAttr "inputs") (wVar 1))) (wAndV (w2 pEq (w1 (gAttr "statements") (wVar 0)) (w1 (gAttr "statements") (wVar 1))) (w2 pEq (w1 (gAttr "tells") (wVar 0)) (w1 (gAttr "tells") (wVar 1)))))))
end K13
namespace K13
open PySem L2 TL
local instance : Mach := machA
variable [CN]
local instance : Xw := Xw.no
local instance : XCl := xcl
def top (i : Nat) : Stmt := PySem.Challenge.pw_cliffordworks_k13_kinds_and_equality.main.body.getD i (.Pass ⟨0, 0, 0, 0⟩)
def clsBody : Stmt → List Stmt
  | .ClassDef _ _ _ b _ _ _ _ _ _ _ => b
  | _ => []
def sub (i j : Nat) : Stmt := (clsBody (top i)).getD j (.Pass ⟨0, 0, 0, 0⟩)
abbrev s_is_number : Stmt := top 12
abbrev s_is_bit : Stmt := top 13
abbrev s_is_ascending : Stmt := top 14
abbrev s_is_parity : Stmt := top 15
abbrev s_is_line : Stmt := top 21
abbrev s_are_lines : Stmt := top 22
abbrev s_is_factor : Stmt := top 23
abbrev s_is_word : Stmt := top 24
abbrev s_is_operator : Stmt := top 25
abbrev s_need_operator : Stmt := top 26
abbrev s_word_in : Stmt := top 27
abbrev s_lines_of : Stmt := top 28
abbrev s_is_gate : Stmt := top 29
abbrev s_is_measurement : Stmt := top 31
abbrev s_acts_on : Stmt := top 32
abbrev s_alive_behind : Stmt := top 33
abbrev s__law_begun : Stmt := top 36
abbrev s__law_next : Stmt := top 37
abbrev s__law_parts : Stmt := top 38
abbrev s__law_is_refused : Stmt := top 39
abbrev s__law_kinds_right : Stmt := top 40
abbrev s_law : Stmt := top 41
abbrev s_Program_init : Stmt := sub 34 0
abbrev s_Program_eq : Stmt := sub 34 1
abbrev s_BadOperator_init : Stmt := sub 3 0
theorem ini_BadOperator : InitIs s_BadOperator_init "reason" "reason" := ⟨⟨_, _, _, _, _, _, _, _, _, _, _, _, rfl, fun env => ⟨_, rfl⟩⟩, fun _ _ _ _ _ _ _ _ us hl => match us, hl with | [_, _], _ => rfl, rfl, rfl, rfl, rfl, by decide +kernel, by decide +kernel, by decide +kernel, by decide +kernel, by decide +kernel, by decide +kernel, by decide +kernel⟩
abbrev s_BadProgram_init : Stmt := sub 4 0
theorem ini_BadProgram : InitIs s_BadProgram_init "place" "place" := ⟨⟨_, _, _, _, _, _, _, _, _, _, _, _, rfl, fun env => ⟨_, rfl⟩⟩, fun _ _ _ _ _ _ _ _ us hl => match us, hl with | [_, _], _ => rfl, rfl, rfl, rfl, rfl, by decide +kernel, by decide +kernel, by decide +kernel, by decide +kernel, by decide +kernel, by decide +kernel, by decide +kernel⟩
theorem B_Program_init_4 : BindOk "__init__" "Program.__init__" s_Program_init ["self", "inputs", "statements", "tells"] 1 1 := bind_some 4 1 (by decide) rfl (fun _ _ _ _ _ _ _ us its h1 h2 => match us, its, h1, h2 with | [_, _, _, _], [_], _, _ => ⟨_, rfl, rfl⟩)
theorem B_Program_eq_2 : BindOk "__eq__" "Program.__eq__" s_Program_eq ["self", "other"] 0 0 := bind_all0 (fun _ _ _ _ _ _ us hl => match us, hl with | [_, _], _ => rfl)
theorem B_Program_init_3 : BindOk "__init__" "Program.__init__" s_Program_init ["self", "inputs", "statements", "tells"] 1 0 := bind_some 3 0 (by decide) rfl (fun _ _ _ _ _ _ _ us its h1 h2 => match us, its, h1, h2 with | [_, _, _], [_], _, _ => ⟨_, rfl, rfl⟩)
structure Txt (P : Program) (K : PySem.W.Frag) (mg : Str → Option Value) : Prop where
  b_all : mg "all" = none
  b_bool : mg "bool" = none
  b_enumerate : mg "enumerate" = none
  b_int : mg "int" = none
  b_isinstance : mg "isinstance" = none
  b_len : mg "len" = none
  b_list : mg "list" = none
  b_min : mg "min" = none
  b_range : mg "range" = none
  b_sorted : mg "sorted" = none
  b_str : mg "str" = none
  b_tuple : mg "tuple" = none
  g_DIGITS : ∃ t, mg "DIGITS" = some (.str "0123456789" t)
  g_MAX_ALIVE : ∃ t, mg "MAX_ALIVE" = some (.int 6 t)
  g_MAX_BITS : ∃ t, mg "MAX_BITS" = some (.int 10 t)
  g_MAX_INPUTS : ∃ t, mg "MAX_INPUTS" = some (.int 6 t)
  g_MAX_LINE : ∃ t, mg "MAX_LINE" = some (.int 9 t)
  g_MAX_STATEMENTS : ∃ t, mg "MAX_STATEMENTS" = some (.int 40 t)
  g_MAX_TELLS : ∃ t, mg "MAX_TELLS" = some (.int 8 t)
  g_NOTHING : ∃ t, mg "NOTHING" = some (.str "I" t)
  g_ONE_LINE : Glob K mg "ONE_LINE" (.tup [(.str "h"), (.str "s"), (.str "sdg"), (.str "x"), (.str "y"), (.str "z")])
  g_TWO_LINES : Glob K mg "TWO_LINES" (.tup [(.str "cx"), (.str "cz"), (.str "swap")])
  d_is_number : Def K mg "is_number" s_is_number
  d_is_bit : Def K mg "is_bit" s_is_bit
  d_is_ascending : Def K mg "is_ascending" s_is_ascending
  d_is_parity : Def K mg "is_parity" s_is_parity
  d_is_line : Def K mg "is_line" s_is_line
  d_are_lines : Def K mg "are_lines" s_are_lines
  d_is_factor : Def K mg "is_factor" s_is_factor
  d_is_word : Def K mg "is_word" s_is_word
  d_is_operator : Def K mg "is_operator" s_is_operator
  d_need_operator : Def K mg "need_operator" s_need_operator
  d_word_in : Def K mg "word_in" s_word_in
  d_lines_of : Def K mg "lines_of" s_lines_of
  d_is_gate : Def K mg "is_gate" s_is_gate
  d_is_measurement : Def K mg "is_measurement" s_is_measurement
  d_acts_on : Def K mg "acts_on" s_acts_on
  d_alive_behind : Def K mg "alive_behind" s_alive_behind
  d__law_begun : Def K mg "_law_begun" s__law_begun
  d__law_next : Def K mg "_law_next" s__law_next
  d__law_parts : Def K mg "_law_parts" s__law_parts
  d__law_is_refused : Def K mg "_law_is_refused" s__law_is_refused
  d__law_kinds_right : Def K mg "_law_kinds_right" s__law_kinds_right
  top : (P.main.scope.names.lookup ("super" : Str)).isSome = false
  clf : ClF K
  n_BadProgram : ∃ C, mg "BadProgram" = some (.ref C) ∧ CN.at_ "BadProgram" = some C
  n_Program : ∃ C, mg "Program" = some (.ref C) ∧ CN.at_ "Program" = some C
  x_BadOperator : ∃ C, mg "BadOperator" = some (.ref C) ∧ CN.at_ "BadOperator" = some C ∧ ExK P K C s_BadOperator_init "BadOperator.__init__" "reason"
  x_BadProgram : ∃ C, mg "BadProgram" = some (.ref C) ∧ CN.at_ "BadProgram" = some C ∧ ExK P K C s_BadProgram_init "BadProgram.__init__" "place"
  ne_Program : ∀ C f, CN.at_ "Program" = some C → PySem.W.findIn K (.ref C) "__eq__" = some (some (.ref f)) → NeC K C f
  hv_BadProgram : ∀ A0, CN.at_ "BadProgram" = some A0 → HdV K ["BadProgram"] [.ref A0]
  i_Program : InitD K mg "Program" "Program.__init__" s_Program_init [(.tup [])]
  m_Program_eq : MethD K "Program" "__eq__" "Program.__eq__" s_Program_eq []
section
variable {P : Program} {w : World} {K : PySem.W.Frag} {mg : Str → Option Value} {base : Heap}
theorem fl_Program (F : ClF K) : ∀ C, CN.at_ "Program" = some C → ∀ f ∈ [("inputs" : Str), ("statements" : Str), ("tells" : Str), ("outputs" : Str), ("bits" : Str), ("rows" : Str)], NoAttr K C f := fun C h => (F.ob "Program" C h rfl (by decide +kernel)).2
theorem oc_Program (F : ClF K) : ∀ C, CN.at_ "Program" = some C → ObjC K C := fun C h => (F.ob "Program" C h rfl (by decide +kernel)).1
theorem sc_is_number : FnScope N_is_number ["value", "bound"] (defScope s_is_number) := ⟨rfl, rfl, rfl, by decide +kernel, rfl, by decide +kernel, by decide +kernel⟩
theorem c_is_number {F : FT} (T : Txt P K mg) (hlen : ∀ ts n R RE, F ts n R RE → ts.length = 2)
    (hspec : ∀ ts n R RE, F ts n R RE → W_is_number RE { nx := fun _ n => R .non n, rt := R } (startT N_is_number ts) n) : Cal P w K mg base 1 "is_number" ["value", "bound"] F :=
  have S := sc_is_number
  calT T.d_is_number S (fun _ _ _ _ _ _ us hl => match us, hl with | [_, _], _ => rfl) hlen (fun RE => W_is_number RE) (fun f cdv A outer s H E => fun tk po hgd hr =>
    (qss_one (qs_ret (q_and (q_callB call_isi ok_isi (by rfl) T.b_isinstance (by decide +kernel) (qa_cons (q_var 0 (pv 0)) (qa_cons (q_bty (by rfl) T.b_int (by decide +kernel)) qa_nil))) (q_and (q_not (q_callB call_isi ok_isi (by rfl) T.b_isinstance (by decide +kernel) (qa_cons (q_var 0 (pv 0)) (qa_cons (q_bty (by rfl) T.b_bool (by decide +kernel)) qa_nil)))) (q_one (q_chain op_leX ok_ord op_ltX ok_ord (q_int) (q_var 0 (pv 0)) (q_var 1 (pv 1))))))))) hspec
theorem sc_is_bit : FnScope N_is_bit ["value"] (defScope s_is_bit) := ⟨rfl, rfl, rfl, by decide +kernel, rfl, by decide +kernel, by decide +kernel⟩
theorem c_is_bit {F_is_number : FT} {F : FT} (T : Txt P K mg) (C_is_number : Cal P w K mg base 1 "is_number" ["value", "bound"] F_is_number) (hlen : ∀ ts n R RE, F ts n R RE → ts.length = 1)
    (hspec : ∀ ts n R RE, F ts n R RE → W_is_bit RE F_is_number { nx := fun _ n => R .non n, rt := R } (startT N_is_bit ts) n) : Cal P w K mg base 2 "is_bit" ["value"] F :=
  have S := sc_is_bit
  calT T.d_is_bit S (fun _ _ _ _ _ _ us hl => match us, hl with | [_], _ => rfl) hlen (fun RE => W_is_bit RE F_is_number) (fun f cdv A outer s H E => fun tk po hgd hr =>
    (qss_one (qs_ret (q_cal tk hgd C_is_number hr (by decide) (by rfl) (qa_cons (q_var 0 (pv 0)) (qa_cons (q_int) qa_nil)))))) hspec
theorem sc_is_ascending : FnScope N_is_ascending ["value", "bound"] (defScope s_is_ascending) := ⟨rfl, rfl, rfl, by decide +kernel, rfl, by decide +kernel, by decide +kernel⟩
theorem c_is_ascending {F_is_number : FT} {F : FT} (T : Txt P K mg) (C_is_number : Cal P w K mg base 1 "is_number" ["value", "bound"] F_is_number) (hlen : ∀ ts n R RE, F ts n R RE → ts.length = 2)
    (hspec : ∀ ts n R RE, F ts n R RE → W_is_ascending RE F_is_number { nx := fun _ n => R .non n, rt := R } (startT N_is_ascending ts) n) : Cal P w K mg base 2 "is_ascending" ["value", "bound"] F :=
  have S := sc_is_ascending
  calT T.d_is_ascending S (fun _ _ _ _ _ _ us hl => match us, hl with | [_, _], _ => rfl) hlen (fun RE => W_is_ascending RE F_is_number) (fun f cdv A outer s H E => fun tk po hgd hr =>
    (qss_cons (qs_if (qt_bool (qw_or (qt_not (qt_val (q_callB call_isi ok_isi (by rfl) T.b_isinstance (by decide +kernel) (qa_cons (q_var 0 (pv 0)) (qa_cons (q_bty (by rfl) T.b_tuple (by decide +kernel)) qa_nil))))) (qw_or1 (qt_not (qt_val (q_callB (cr_all rfl) (ok_all (g := fun bs => bs.all id)) (by rfl) T.b_all (by decide +kernel) (qa_cons (q_of_f (qf_lc (own := [("one", 2)]) (g := (.one 2)) rfl S.nd (qi_seq (q_var 0 (pv 0))) (blkOk_by (own := [("one", 2)]) (N := N_is_ascending) (sc := defScope s_is_ascending) (by decide +kernel)) (by decide) (fun _ _ _ _ _ => pg_name (i := 2) S.nd rfl (Or.inl rfl)) (fun _ _ _ _ _ => qts_nil) (fun _ _ _ _ _ => (letI : Xw := Xw.no; (q_cal TL.takes0 hgd C_is_number hr (by decide) (by rfl) (qa_cons (q_var 2 (pv 2)) (qa_cons (q_var 1 (pv 1)) qa_nil))))))) qa_nil))))))) (qss_one (qs_ret (q_bl))) qss_nil)
      (qss_one (qs_ret (q_callB (cr_all rfl) (ok_all (g := fun bs => bs.all id)) (by rfl) T.b_all (by decide +kernel) (qa_cons (q_of_f (qf_lc (own := [("k", 3)]) (g := (.one 3)) rfl S.nd (qi_rng1 (by rfl) T.b_range (qa_cons (q_op op_sub (ok_intI (g := fun i j => i - j)) (q_callB call_len ok_len (by rfl) T.b_len (by decide +kernel) (qa_cons (q_var 0 (pv 0)) qa_nil)) (q_int)) qa_nil)) (blkOk_by (own := [("k", 3)]) (N := N_is_ascending) (sc := defScope s_is_ascending) (by decide +kernel)) (by decide) (fun _ _ _ _ _ => pg_name (i := 3) S.nd rfl (Or.inl rfl)) (fun _ _ _ _ _ => qts_nil) (fun _ _ _ _ _ => (letI : Xw := Xw.no; (q_cmp op_ltX ok_ord (nomark _) (q_ix ix_seq ok_ix (fun _ _ => rfl) (q_var 0 (pv 0)) (q_var 3 (pv 3))) (q_ix ix_seq ok_ix (fun _ _ => rfl) (q_var 0 (pv 0)) (q_op op_addAll ok_addAll (q_var 3 (pv 3)) (q_int)))))))) qa_nil)))))) hspec
theorem sc_is_parity : FnScope N_is_parity ["value", "many"] (defScope s_is_parity) := ⟨rfl, rfl, rfl, by decide +kernel, rfl, by decide +kernel, by decide +kernel⟩
theorem c_is_parity {F_is_bit : FT} {F_is_ascending : FT} {F : FT} (T : Txt P K mg) (C_is_bit : Cal P w K mg base 2 "is_bit" ["value"] F_is_bit) (C_is_ascending : Cal P w K mg base 2 "is_ascending" ["value", "bound"] F_is_ascending) (hlen : ∀ ts n R RE, F ts n R RE → ts.length = 2)
    (hspec : ∀ ts n R RE, F ts n R RE → W_is_parity RE F_is_bit F_is_ascending { nx := fun _ n => R .non n, rt := R } (startT N_is_parity ts) n) : Cal P w K mg base 3 "is_parity" ["value", "many"] F :=
  have S := sc_is_parity
  calT T.d_is_parity S (fun _ _ _ _ _ _ us hl => match us, hl with | [_, _], _ => rfl) hlen (fun RE => W_is_parity RE F_is_bit F_is_ascending) (fun f cdv A outer s H E => fun tk po hgd hr =>
    (qss_one (qs_ret (q_and (q_callB call_isi ok_isi (by rfl) T.b_isinstance (by decide +kernel) (qa_cons (q_var 0 (pv 0)) (qa_cons (q_bty (by rfl) T.b_tuple (by decide +kernel)) qa_nil))) (q_and (q_cmp (op_eqX hr.units) ok_eq (nomark _) (q_callB call_len ok_len (by rfl) T.b_len (by decide +kernel) (qa_cons (q_var 0 (pv 0)) qa_nil)) (q_int)) (q_and (q_cal tk hgd C_is_bit hr (by decide) (by rfl) (qa_cons (q_ix ix_seq ok_ix (fun _ _ => rfl) (q_var 0 (pv 0)) (q_int)) qa_nil)) (q_one (q_cal tk hgd C_is_ascending hr (by decide) (by rfl) (qa_cons (q_ix ix_seq ok_ix (fun _ _ => rfl) (q_var 0 (pv 0)) (q_int)) (qa_cons (q_var 1 (pv 1)) qa_nil)))))))))) hspec
theorem sc_is_line : FnScope N_is_line ["value"] (defScope s_is_line) := ⟨rfl, rfl, rfl, by decide +kernel, rfl, by decide +kernel, by decide +kernel⟩
theorem c_is_line {F : FT} (T : Txt P K mg) (hlen : ∀ ts n R RE, F ts n R RE → ts.length = 1)
    (hspec : ∀ ts n R RE, F ts n R RE → W_is_line RE { nx := fun _ n => R .non n, rt := R } (startT N_is_line ts) n) : Cal P w K mg base 1 "is_line" ["value"] F :=
  have S := sc_is_line
  calT T.d_is_line S (fun _ _ _ _ _ _ us hl => match us, hl with | [_], _ => rfl) hlen (fun RE => W_is_line RE) (fun f cdv A outer s H E => fun tk po hgd hr =>
    (qss_one (qs_ret (q_and (q_callB call_isi ok_isi (by rfl) T.b_isinstance (by decide +kernel) (qa_cons (q_var 0 (pv 0)) (qa_cons (q_bty (by rfl) T.b_int (by decide +kernel)) qa_nil))) (q_and (q_not (q_callB call_isi ok_isi (by rfl) T.b_isinstance (by decide +kernel) (qa_cons (q_var 0 (pv 0)) (qa_cons (q_bty (by rfl) T.b_bool (by decide +kernel)) qa_nil)))) (q_one (q_chain op_leX ok_ord op_leX ok_ord (q_int) (q_var 0 (pv 0)) (q_globI (by rfl) T.g_MAX_LINE)))))))) hspec
theorem sc_are_lines : FnScope N_are_lines ["value"] (defScope s_are_lines) := ⟨rfl, rfl, rfl, by decide +kernel, rfl, by decide +kernel, by decide +kernel⟩
theorem c_are_lines {F_is_line : FT} {F : FT} (T : Txt P K mg) (C_is_line : Cal P w K mg base 1 "is_line" ["value"] F_is_line) (hlen : ∀ ts n R RE, F ts n R RE → ts.length = 1)
    (hspec : ∀ ts n R RE, F ts n R RE → W_are_lines RE F_is_line { nx := fun _ n => R .non n, rt := R } (startT N_are_lines ts) n) : Cal P w K mg base 2 "are_lines" ["value"] F :=
  have S := sc_are_lines
  calT T.d_are_lines S (fun _ _ _ _ _ _ us hl => match us, hl with | [_], _ => rfl) hlen (fun RE => W_are_lines RE F_is_line) (fun f cdv A outer s H E => fun tk po hgd hr =>
    (qss_cons (qs_if (qt_bool (qw_or (qt_not (qt_val (q_callB call_isi ok_isi (by rfl) T.b_isinstance (by decide +kernel) (qa_cons (q_var 0 (pv 0)) (qa_cons (q_bty (by rfl) T.b_tuple (by decide +kernel)) qa_nil))))) (qw_or1 (qt_not (qt_val (q_callB (cr_all rfl) (ok_all (g := fun bs => bs.all id)) (by rfl) T.b_all (by decide +kernel) (qa_cons (q_of_f (qf_lc (own := [("line", 1)]) (g := (.one 1)) rfl S.nd (qi_seq (q_var 0 (pv 0))) (blkOk_by (own := [("line", 1)]) (N := N_are_lines) (sc := defScope s_are_lines) (by decide +kernel)) (by decide) (fun _ _ _ _ _ => pg_name (i := 1) S.nd rfl (Or.inl rfl)) (fun _ _ _ _ _ => qts_nil) (fun _ _ _ _ _ => (letI : Xw := Xw.no; (q_cal TL.takes0 hgd C_is_line hr (by decide) (by rfl) (qa_cons (q_var 1 (pv 1)) qa_nil)))))) qa_nil))))))) (qss_one (qs_ret (q_bl))) qss_nil)
      (qss_one (qs_ret (q_callB (cr_all rfl) (ok_all (g := fun bs => bs.all id)) (by rfl) T.b_all (by decide +kernel) (qa_cons (q_of_f (qf_lc (own := [("k", 2)]) (g := (.one 2)) rfl S.nd (qi_rng1 (by rfl) T.b_range (qa_cons (q_op op_sub (ok_intI (g := fun i j => i - j)) (q_callB call_len ok_len (by rfl) T.b_len (by decide +kernel) (qa_cons (q_var 0 (pv 0)) qa_nil)) (q_int)) qa_nil)) (blkOk_by (own := [("k", 2)]) (N := N_are_lines) (sc := defScope s_are_lines) (by decide +kernel)) (by decide) (fun _ _ _ _ _ => pg_name (i := 2) S.nd rfl (Or.inl rfl)) (fun _ _ _ _ _ => qts_nil) (fun _ _ _ _ _ => (letI : Xw := Xw.no; (q_cmp op_ltX ok_ord (nomark _) (q_ix ix_seq ok_ix (fun _ _ => rfl) (q_var 0 (pv 0)) (q_var 2 (pv 2))) (q_ix ix_seq ok_ix (fun _ _ => rfl) (q_var 0 (pv 0)) (q_op op_addAll ok_addAll (q_var 2 (pv 2)) (q_int)))))))) qa_nil)))))) hspec
theorem sc_is_factor : FnScope N_is_factor ["text"] (defScope s_is_factor) := ⟨rfl, rfl, rfl, by decide +kernel, rfl, by decide +kernel, by decide +kernel⟩
theorem c_is_factor {F : FT} (T : Txt P K mg) (hlen : ∀ ts n R RE, F ts n R RE → ts.length = 1)
    (hspec : ∀ ts n R RE, F ts n R RE → W_is_factor RE { nx := fun _ n => R .non n, rt := R } (startT N_is_factor ts) n) : Cal P w K mg base 1 "is_factor" ["text"] F :=
  have S := sc_is_factor
  calT T.d_is_factor S (fun _ _ _ _ _ _ us hl => match us, hl with | [_], _ => rfl) hlen (fun RE => W_is_factor RE) (fun f cdv A outer s H E => fun tk po hgd hr =>
    (qss_one (qs_ret (q_and (q_cmp (op_eqX hr.units) ok_eq (nomark _) (q_callB call_len ok_len (by rfl) T.b_len (by decide +kernel) (qa_cons (q_var 0 (pv 0)) qa_nil)) (q_int)) (q_and (q_cmp op_inX ok_in (by rfl) (q_ix ix_seq ok_ix (fun _ _ => rfl) (q_var 0 (pv 0)) (q_int)) (q_str)) (q_one (q_cmp op_inX ok_in (by rfl) (q_ix ix_seq ok_ix (fun _ _ => rfl) (q_var 0 (pv 0)) (q_int)) (q_globS (by rfl) T.g_DIGITS)))))))) hspec
theorem sc_is_word : FnScope N_is_word ["value"] (defScope s_is_word) := ⟨rfl, rfl, rfl, by decide +kernel, rfl, by decide +kernel, by decide +kernel⟩
theorem c_is_word {F_is_factor : FT} {F : FT} (T : Txt P K mg) (C_is_factor : Cal P w K mg base 1 "is_factor" ["text"] F_is_factor) (hlen : ∀ ts n R RE, F ts n R RE → ts.length = 1)
    (hspec : ∀ ts n R RE, F ts n R RE → W_is_word RE F_is_factor { nx := fun _ n => R .non n, rt := R } (startT N_is_word ts) n) : Cal P w K mg base 2 "is_word" ["value"] F :=
  have S := sc_is_word
  calT T.d_is_word S (fun _ _ _ _ _ _ us hl => match us, hl with | [_], _ => rfl) hlen (fun RE => W_is_word RE F_is_factor) (fun f cdv A outer s H E => fun tk po hgd hr =>
    (qss_cons (qs_if (qt_not (qt_val (q_callB call_isi ok_isi (by rfl) T.b_isinstance (by decide +kernel) (qa_cons (q_var 0 (pv 0)) (qa_cons (q_bty (by rfl) T.b_str (by decide +kernel)) qa_nil))))) (qss_one (qs_ret (q_bl))) qss_nil)
      (qss_cons (qs_if (qt_cmp (op_eqX hr.units) ok_eq (nomark _) (q_var 0 (pv 0)) (q_globS (by rfl) T.g_NOTHING)) (qss_one (qs_ret (q_bl))) qss_nil)
      (qss_cons (qs_set (i := 1) S.nd rfl (Or.inr rfl) (q_bm kd_str ok_split PySem.F.plainAttrs_str PySem.F.slot_str_split PySem.F.type_str_split mt_split (q_var 0 (pv 0)) (qa_cons (q_str) qa_nil)))
      (qss_cons (qs_if (qt_not (qt_val (q_callB (cr_all rfl) (ok_all (g := fun bs => bs.all id)) (by rfl) T.b_all (by decide +kernel) (qa_cons (q_of_f (qf_lc (own := [("factor", 2)]) (g := (.one 2)) rfl S.nd (qi_seq (q_var 1 (pv 1))) (blkOk_by (own := [("factor", 2)]) (N := N_is_word) (sc := defScope s_is_word) (by decide +kernel)) (by decide) (fun _ _ _ _ _ => pg_name (i := 2) S.nd rfl (Or.inl rfl)) (fun _ _ _ _ _ => qts_nil) (fun _ _ _ _ _ => (letI : Xw := Xw.no; (q_cal TL.takes0 hgd C_is_factor hr (by decide) (by rfl) (qa_cons (q_var 2 (pv 2)) qa_nil)))))) qa_nil)))) (qss_one (qs_ret (q_bl))) qss_nil)
      (qss_one (qs_ret (q_callB (cr_all rfl) (ok_all (g := fun bs => bs.all id)) (by rfl) T.b_all (by decide +kernel) (qa_cons (q_of_f (qf_lc (own := [("k", 3)]) (g := (.one 3)) rfl S.nd (qi_rng1 (by rfl) T.b_range (qa_cons (q_op op_sub (ok_intI (g := fun i j => i - j)) (q_callB call_len ok_len (by rfl) T.b_len (by decide +kernel) (qa_cons (q_var 1 (pv 1)) qa_nil)) (q_int)) qa_nil)) (blkOk_by (own := [("k", 3)]) (N := N_is_word) (sc := defScope s_is_word) (by decide +kernel)) (by decide) (fun _ _ _ _ _ => pg_name (i := 3) S.nd rfl (Or.inl rfl)) (fun _ _ _ _ _ => qts_nil) (fun _ _ _ _ _ => (letI : Xw := Xw.no; (q_cmp op_ltX ok_ord (nomark _) (q_ix ix_seq ok_ix (fun _ _ => rfl) (q_ix ix_seq ok_ix (fun _ _ => rfl) (q_var 1 (pv 1)) (q_var 3 (pv 3))) (q_int)) (q_ix ix_seq ok_ix (fun _ _ => rfl) (q_ix ix_seq ok_ix (fun _ _ => rfl) (q_var 1 (pv 1)) (q_op op_addAll ok_addAll (q_var 3 (pv 3)) (q_int))) (q_int))))))) qa_nil))))))))) hspec
theorem sc_is_operator : FnScope N_is_operator ["value"] (defScope s_is_operator) := ⟨rfl, rfl, rfl, by decide +kernel, rfl, by decide +kernel, by decide +kernel⟩
theorem c_is_operator {F_is_word : FT} {F : FT} (T : Txt P K mg) (C_is_word : Cal P w K mg base 2 "is_word" ["value"] F_is_word) (hlen : ∀ ts n R RE, F ts n R RE → ts.length = 1)
    (hspec : ∀ ts n R RE, F ts n R RE → W_is_operator RE F_is_word { nx := fun _ n => R .non n, rt := R } (startT N_is_operator ts) n) : Cal P w K mg base 3 "is_operator" ["value"] F :=
  have S := sc_is_operator
  calT T.d_is_operator S (fun _ _ _ _ _ _ us hl => match us, hl with | [_], _ => rfl) hlen (fun RE => W_is_operator RE F_is_word) (fun f cdv A outer s H E => fun tk po hgd hr =>
    (qss_one (qs_ret (q_and (q_callB call_isi ok_isi (by rfl) T.b_isinstance (by decide +kernel) (qa_cons (q_var 0 (pv 0)) (qa_cons (q_bty (by rfl) T.b_str (by decide +kernel)) qa_nil))) (q_one (q_cal tk hgd C_is_word hr (by decide) (by rfl) (qa_cons (q_ifExp (qt_val (q_bm kd_str ok_s1b PySem.F.plainAttrs_str PySem.F.slot_str_startswith PySem.F.type_str_startswith mt_startswith (q_var 0 (pv 0)) (qa_cons (q_str) qa_nil))) (q_slice (q_var 0 (pv 0)) (qo_some (q_int)) qo_none) (q_var 0 (pv 0))) qa_nil))))))) hspec
theorem sc_need_operator : FnScope N_need_operator ["value"] (defScope s_need_operator) := ⟨rfl, rfl, rfl, by decide +kernel, rfl, by decide +kernel, by decide +kernel⟩
theorem c_need_operator {F_is_operator : FT} {F : FT} (T : Txt P K mg) (C_is_operator : Cal P w K mg base 3 "is_operator" ["value"] F_is_operator) (hlen : ∀ ts n R RE, F ts n R RE → ts.length = 1)
    (hspec : ∀ ts n R RE, F ts n R RE → W_need_operator RE F_is_operator { nx := fun _ n => R .non n, rt := R } (startT N_need_operator ts) n) : Cal P w K mg base 4 "need_operator" ["value"] F :=
  have S := sc_need_operator
  calT T.d_need_operator S (fun _ _ _ _ _ _ us hl => match us, hl with | [_], _ => rfl) hlen (fun RE => W_need_operator RE F_is_operator) (fun f cdv A outer s H E => fun tk po hgd hr =>
    (qss_one (qs_if (qt_not (qt_val (q_cal tk hgd C_is_operator hr (by decide) (by rfl) (qa_cons (q_var 0 (pv 0)) qa_nil)))) (qss_one (qs_raise tk rfl (T.x_BadOperator).choose_spec.2.2 (T.x_BadOperator).choose_spec.2.1 ini_BadOperator T.top hr (by rfl) (T.x_BadOperator).choose_spec.1 (q_str))) qss_nil))) hspec
theorem sc_word_in : FnScope N_word_in ["operator"] (defScope s_word_in) := ⟨rfl, rfl, rfl, by decide +kernel, rfl, by decide +kernel, by decide +kernel⟩
theorem c_word_in {F : FT} (T : Txt P K mg) (hlen : ∀ ts n R RE, F ts n R RE → ts.length = 1)
    (hspec : ∀ ts n R RE, F ts n R RE → W_word_in RE { nx := fun _ n => R .non n, rt := R } (startT N_word_in ts) n) : Cal P w K mg base 1 "word_in" ["operator"] F :=
  have S := sc_word_in
  calT T.d_word_in S (fun _ _ _ _ _ _ us hl => match us, hl with | [_], _ => rfl) hlen (fun RE => W_word_in RE) (fun f cdv A outer s H E => fun tk po hgd hr =>
    (qss_one (qs_ret (q_ifExp (qt_val (q_bm kd_str ok_s1b PySem.F.plainAttrs_str PySem.F.slot_str_startswith PySem.F.type_str_startswith mt_startswith (q_var 0 (pv 0)) (qa_cons (q_str) qa_nil))) (q_slice (q_var 0 (pv 0)) (qo_some (q_int)) qo_none) (q_var 0 (pv 0)))))) hspec
theorem sc_lines_of : FnScope N_lines_of ["operator"] (defScope s_lines_of) := ⟨rfl, rfl, rfl, by decide +kernel, rfl, by decide +kernel, by decide +kernel⟩
theorem c_lines_of {F_need_operator : FT} {F_word_in : FT} {F : FT} (T : Txt P K mg) (C_need_operator : Cal P w K mg base 4 "need_operator" ["value"] F_need_operator) (C_word_in : Cal P w K mg base 1 "word_in" ["operator"] F_word_in) (hlen : ∀ ts n R RE, F ts n R RE → ts.length = 1)
    (hspec : ∀ ts n R RE, F ts n R RE → W_lines_of RE F_need_operator F_word_in { nx := fun _ n => R .non n, rt := R } (startT N_lines_of ts) n) : Cal P w K mg base 5 "lines_of" ["operator"] F :=
  have S := sc_lines_of
  calT T.d_lines_of S (fun _ _ _ _ _ _ us hl => match us, hl with | [_], _ => rfl) hlen (fun RE => W_lines_of RE F_need_operator F_word_in) (fun f cdv A outer s H E => fun tk po hgd hr =>
    (qss_cons (qs_expr (q_cal tk hgd C_need_operator hr (by decide) (by rfl) (qa_cons (q_var 0 (pv 0)) qa_nil)))
      (qss_cons (qs_set (i := 1) S.nd rfl (Or.inl rfl) (q_cal tk hgd C_word_in hr (by decide) (by rfl) (qa_cons (q_var 0 (pv 0)) qa_nil)))
      (qss_one (qs_ret (q_ifExp (qt_cmp (op_neX hr.units) ok_ne (nomark _) (q_var 1 (pv 1)) (q_globS (by rfl) T.g_NOTHING)) (q_callTy call_tuple_of ok_tupOf (by rfl) T.b_tuple (by decide +kernel) (qa_cons (q_of_f (qf_lc (own := [("factor", 2)]) (g := (.one 2)) rfl S.nd (qi_seq (q_bm kd_str ok_split PySem.F.plainAttrs_str PySem.F.slot_str_split PySem.F.type_str_split mt_split (q_var 1 (pv 1)) (qa_cons (q_str) qa_nil))) (blkOk_by (own := [("factor", 2)]) (N := N_lines_of) (sc := defScope s_lines_of) (by decide +kernel)) (by decide) (fun _ _ _ _ _ => pg_name (i := 2) S.nd rfl (Or.inl rfl)) (fun _ _ _ _ _ => qts_nil) (fun _ _ _ _ _ => (letI : Xw := Xw.no; (q_bm kd_str ok_sidx PySem.F.plainAttrs_str PySem.F.slot_str_index PySem.F.type_str_index mt_sindex (q_globS (by rfl) T.g_DIGITS) (qa_cons (q_ix ix_seq ok_ix (fun _ _ => rfl) (q_var 2 (pv 2)) (q_int)) qa_nil)))))) qa_nil)) (q_tup qa_nil))))))) hspec
theorem sc_is_gate : FnScope N_is_gate ["name", "lines"] (defScope s_is_gate) := ⟨rfl, rfl, rfl, by decide +kernel, rfl, by decide +kernel, by decide +kernel⟩
theorem c_is_gate {F_is_line : FT} {F : FT} (T : Txt P K mg) (C_is_line : Cal P w K mg base 1 "is_line" ["value"] F_is_line) (hlen : ∀ ts n R RE, F ts n R RE → ts.length = 2)
    (hspec : ∀ ts n R RE, F ts n R RE → W_is_gate RE F_is_line { nx := fun _ n => R .non n, rt := R } (startT N_is_gate ts) n) : Cal P w K mg base 2 "is_gate" ["name", "lines"] F :=
  have S := sc_is_gate
  calT T.d_is_gate S (fun _ _ _ _ _ _ us hl => match us, hl with | [_, _], _ => rfl) hlen (fun RE => W_is_gate RE F_is_line) (fun f cdv A outer s H E => fun tk po hgd hr =>
    (qss_cons (qs_if (qt_bool (qw_or (qt_not (qt_val (q_callB call_isi ok_isi (by rfl) T.b_isinstance (by decide +kernel) (qa_cons (q_var 0 (pv 0)) (qa_cons (q_bty (by rfl) T.b_str (by decide +kernel)) qa_nil))))) (qw_or (qt_not (qt_val (q_callB call_isi ok_isi (by rfl) T.b_isinstance (by decide +kernel) (qa_cons (q_var 1 (pv 1)) (qa_cons (q_bty (by rfl) T.b_tuple (by decide +kernel)) qa_nil))))) (qw_or1 (qt_not (qt_val (q_callB (cr_all rfl) (ok_all (g := fun bs => bs.all id)) (by rfl) T.b_all (by decide +kernel) (qa_cons (q_of_f (qf_lc (own := [("line", 2)]) (g := (.one 2)) rfl S.nd (qi_seq (q_var 1 (pv 1))) (blkOk_by (own := [("line", 2)]) (N := N_is_gate) (sc := defScope s_is_gate) (by decide +kernel)) (by decide) (fun _ _ _ _ _ => pg_name (i := 2) S.nd rfl (Or.inl rfl)) (fun _ _ _ _ _ => qts_nil) (fun _ _ _ _ _ => (letI : Xw := Xw.no; (q_cal TL.takes0 hgd C_is_line hr (by decide) (by rfl) (qa_cons (q_var 2 (pv 2)) qa_nil)))))) qa_nil)))))))) (qss_one (qs_ret (q_bl))) qss_nil)
      (qss_cons (qs_if (qt_cmp op_inX ok_in (by rfl) (q_var 0 (pv 0)) (q_globT (by rfl) T.g_ONE_LINE)) (qss_one (qs_ret (q_cmp (op_eqX hr.units) ok_eq (nomark _) (q_callB call_len ok_len (by rfl) T.b_len (by decide +kernel) (qa_cons (q_var 1 (pv 1)) qa_nil)) (q_int)))) qss_nil)
      (qss_one (qs_ret (q_and (q_cmp op_inX ok_in (by rfl) (q_var 0 (pv 0)) (q_globT (by rfl) T.g_TWO_LINES)) (q_and (q_cmp (op_eqX hr.units) ok_eq (nomark _) (q_callB call_len ok_len (by rfl) T.b_len (by decide +kernel) (qa_cons (q_var 1 (pv 1)) qa_nil)) (q_int)) (q_one (q_cmp (op_neX hr.units) ok_ne (nomark _) (q_ix ix_seq ok_ix (fun _ _ => rfl) (q_var 1 (pv 1)) (q_int)) (q_ix ix_seq ok_ix (fun _ _ => rfl) (q_var 1 (pv 1)) (q_int))))))))))) hspec
theorem sc_is_measurement : FnScope N_is_measurement ["statement"] (defScope s_is_measurement) := ⟨rfl, rfl, rfl, by decide +kernel, rfl, by decide +kernel, by decide +kernel⟩
theorem c_is_measurement {F : FT} (T : Txt P K mg) (hlen : ∀ ts n R RE, F ts n R RE → ts.length = 1)
    (hspec : ∀ ts n R RE, F ts n R RE → W_is_measurement RE { nx := fun _ n => R .non n, rt := R } (startT N_is_measurement ts) n) : Cal P w K mg base 1 "is_measurement" ["statement"] F :=
  have S := sc_is_measurement
  calT T.d_is_measurement S (fun _ _ _ _ _ _ us hl => match us, hl with | [_], _ => rfl) hlen (fun RE => W_is_measurement RE) (fun f cdv A outer s H E => fun tk po hgd hr =>
    (qss_one (qs_ret (q_cmp (op_eqX hr.units) ok_eq (nomark _) (q_ix ix_seq ok_ix (fun _ _ => rfl) (q_var 0 (pv 0)) (q_int)) (q_str))))) hspec
theorem sc_acts_on : FnScope N_acts_on ["operator", "alive"] (defScope s_acts_on) := ⟨rfl, rfl, rfl, by decide +kernel, rfl, by decide +kernel, by decide +kernel⟩
theorem c_acts_on {F_word_in : FT} {F_lines_of : FT} {F : FT} (T : Txt P K mg) (C_word_in : Cal P w K mg base 1 "word_in" ["operator"] F_word_in) (C_lines_of : Cal P w K mg base 5 "lines_of" ["operator"] F_lines_of) (hlen : ∀ ts n R RE, F ts n R RE → ts.length = 2)
    (hspec : ∀ ts n R RE, F ts n R RE → W_acts_on RE F_word_in F_lines_of { nx := fun _ n => R .non n, rt := R } (startT N_acts_on ts) n) : Cal P w K mg base 6 "acts_on" ["operator", "alive"] F :=
  have S := sc_acts_on
  calT T.d_acts_on S (fun _ _ _ _ _ _ us hl => match us, hl with | [_, _], _ => rfl) hlen (fun RE => W_acts_on RE F_word_in F_lines_of) (fun f cdv A outer s H E => fun tk po hgd hr =>
    (qss_one (qs_ret (q_and (q_cmp (op_neX hr.units) ok_ne (nomark _) (q_cal tk hgd C_word_in hr (by decide) (by rfl) (qa_cons (q_var 0 (pv 0)) qa_nil)) (q_globS (by rfl) T.g_NOTHING)) (q_one (q_callB (cr_all rfl) (ok_all (g := fun bs => bs.all id)) (by rfl) T.b_all (by decide +kernel) (qa_cons (q_of_f (qf_lc (own := [("line", 2)]) (g := (.one 2)) rfl S.nd (qi_seq (q_cal tk hgd C_lines_of hr (by decide) (by rfl) (qa_cons (q_var 0 (pv 0)) qa_nil))) (blkOk_by (own := [("line", 2)]) (N := N_acts_on) (sc := defScope s_acts_on) (by decide +kernel)) (by decide) (fun _ _ _ _ _ => pg_name (i := 2) S.nd rfl (Or.inl rfl)) (fun _ _ _ _ _ => qts_nil) (fun _ _ _ _ _ => (letI : Xw := Xw.no; (q_cmp op_inX ok_in (by rfl) (q_var 2 (pv 2)) (q_var 1 (pv 1))))))) qa_nil))))))) hspec
theorem sc_alive_behind : FnScope N_alive_behind ["statement", "alive", "many"] (defScope s_alive_behind) := ⟨rfl, rfl, rfl, by decide +kernel, rfl, by decide +kernel, by decide +kernel⟩
theorem c_alive_behind {F_is_gate : FT} {F_is_word : FT} {F_acts_on : FT} {F_is_parity : FT} {F_is_operator : FT} {F_is_line : FT} {F : FT} (T : Txt P K mg) (C_is_gate : Cal P w K mg base 2 "is_gate" ["name", "lines"] F_is_gate) (C_is_word : Cal P w K mg base 2 "is_word" ["value"] F_is_word) (C_acts_on : Cal P w K mg base 6 "acts_on" ["operator", "alive"] F_acts_on) (C_is_parity : Cal P w K mg base 3 "is_parity" ["value", "many"] F_is_parity) (C_is_operator : Cal P w K mg base 3 "is_operator" ["value"] F_is_operator) (C_is_line : Cal P w K mg base 1 "is_line" ["value"] F_is_line) (hlen : ∀ ts n R RE, F ts n R RE → ts.length = 3)
    (hspec : ∀ ts n R RE, F ts n R RE → W_alive_behind RE F_is_gate F_is_word F_acts_on F_is_parity F_is_operator F_is_line { nx := fun _ n => R .non n, rt := R } (startT N_alive_behind ts) n) : Cal P w K mg base 7 "alive_behind" ["statement", "alive", "many"] F :=
  have S := sc_alive_behind
  calT T.d_alive_behind S (fun _ _ _ _ _ _ us hl => match us, hl with | [_, _, _], _ => rfl) hlen (fun RE => W_alive_behind RE F_is_gate F_is_word F_acts_on F_is_parity F_is_operator F_is_line) (fun f cdv A outer s H E => fun tk po hgd hr =>
    (qss_cons (qs_if (qt_bool (qw_or (qt_not (qt_val (q_callB call_isi ok_isi (by rfl) T.b_isinstance (by decide +kernel) (qa_cons (q_var 0 (pv 0)) (qa_cons (q_bty (by rfl) T.b_tuple (by decide +kernel)) qa_nil))))) (qw_or (qt_cmp op_ltX ok_ord (nomark _) (q_callB call_len ok_len (by rfl) T.b_len (by decide +kernel) (qa_cons (q_var 0 (pv 0)) qa_nil)) (q_int)) (qw_or1 (qt_not (qt_val (q_callB call_isi ok_isi (by rfl) T.b_isinstance (by decide +kernel) (qa_cons (q_ix ix_seq ok_ix (fun _ _ => rfl) (q_var 0 (pv 0)) (q_int)) (qa_cons (q_bty (by rfl) T.b_str (by decide +kernel)) qa_nil))))))))) (qss_one (qs_ret (q_non))) qss_nil)
      (qss_cons (qs_asg (q_slice (q_var 0 (pv 0)) qo_none (qo_some (q_int))) (qg_tup rfl (qgs_cons (qg_name (i := 3) S.nd rfl (Or.inl rfl)) (qgs_cons (qg_name (i := 4) S.nd rfl (Or.inr rfl)) qgs_nil))))
      (qss_cons (qs_if (qt_cmp (op_eqX hr.units) ok_eq (nomark _) (q_var 3 (pv 3)) (q_str)) (qss_cons (qs_set (i := 5) S.nd rfl (Or.inl rfl) (q_and (q_cal tk hgd C_is_gate hr (by decide) (by rfl) (qa_cons (q_var 4 (pv 4)) (qa_cons (q_slice (q_var 0 (pv 0)) (qo_some (q_int)) qo_none) qa_nil))) (q_one (q_callB (cr_all rfl) (ok_all (g := fun bs => bs.all id)) (by rfl) T.b_all (by decide +kernel) (qa_cons (q_of_f (qf_lc (own := [("line", 6)]) (g := (.one 6)) rfl S.nd (qi_seq (q_slice (q_var 0 (pv 0)) (qo_some (q_int)) qo_none)) (blkOk_by (own := [("line", 6)]) (N := N_alive_behind) (sc := defScope s_alive_behind) (by decide +kernel)) (by decide) (fun _ _ _ _ _ => pg_name (i := 6) S.nd rfl (Or.inl rfl)) (fun _ _ _ _ _ => qts_nil) (fun _ _ _ _ _ => (letI : Xw := Xw.no; (q_cmp op_inX ok_in (by rfl) (q_var 6 (pv 6)) (q_var 1 (pv 1))))))) qa_nil)))))
      (qss_one (qs_ret (q_ifExp (qt_val (q_var 5 (pv 5))) (q_var 1 (pv 1)) (q_non))))) qss_nil)
      (qss_cons (qs_if (qt_cmp (op_eqX hr.units) ok_eq (nomark _) (q_var 3 (pv 3)) (q_str)) (qss_cons (qs_set (i := 5) S.nd rfl (Or.inl rfl) (q_and (q_cmp (op_eqX hr.units) ok_eq (nomark _) (q_callB call_len ok_len (by rfl) T.b_len (by decide +kernel) (qa_cons (q_var 0 (pv 0)) qa_nil)) (q_int)) (q_and (q_cal tk hgd C_is_word hr (by decide) (by rfl) (qa_cons (q_var 4 (pv 4)) qa_nil)) (q_and (q_cal tk hgd C_acts_on hr (by decide) (by rfl) (qa_cons (q_var 4 (pv 4)) (qa_cons (q_var 1 (pv 1)) qa_nil))) (q_one (q_cal tk hgd C_is_parity hr (by decide) (by rfl) (qa_cons (q_ix ix_seq ok_ix (fun _ _ => rfl) (q_var 0 (pv 0)) (q_int)) (qa_cons (q_var 2 (pv 2)) qa_nil))))))))
      (qss_one (qs_ret (q_ifExp (qt_val (q_var 5 (pv 5))) (q_var 1 (pv 1)) (q_non))))) qss_nil)
      (qss_cons (qs_if (qt_cmp op_gtX ok_ord (nomark _) (q_callB call_len ok_len (by rfl) T.b_len (by decide +kernel) (qa_cons (q_var 0 (pv 0)) qa_nil)) (q_int)) (qss_one (qs_ret (q_non))) qss_nil)
      (qss_cons (qs_if (qt_cmp (op_eqX hr.units) ok_eq (nomark _) (q_var 3 (pv 3)) (q_str)) (qss_one (qs_ret (q_ifExp (qt_bool (qw_and (qt_cmp op_ltX ok_ord (nomark _) (q_var 2 (pv 2)) (q_globI (by rfl) T.g_MAX_BITS)) (qw_and (qt_val (q_cal tk hgd C_is_operator hr (by decide) (by rfl) (qa_cons (q_var 4 (pv 4)) qa_nil))) (qw_and1 (qt_val (q_cal tk hgd C_acts_on hr (by decide) (by rfl) (qa_cons (q_var 4 (pv 4)) (qa_cons (q_var 1 (pv 1)) qa_nil)))))))) (q_var 1 (pv 1)) (q_non)))) qss_nil)
      (qss_cons (qs_if (qt_bool (qw_or (qt_cmp op_ninX ok_in (by rfl) (q_var 3 (pv 3)) (q_tup (qa_cons (q_str) (qa_cons (q_str) qa_nil)))) (qw_or (qt_not (qt_val (q_cal tk hgd C_is_line hr (by decide) (by rfl) (qa_cons (q_var 4 (pv 4)) qa_nil)))) (qw_or1 (qt_cmp (op_neX hr.units) ok_ne (nomark _) (q_cmp op_inX ok_in (by rfl) (q_var 4 (pv 4)) (q_var 1 (pv 1))) (q_cmp (op_eqX hr.units) ok_eq (nomark _) (q_var 3 (pv 3)) (q_str))))))) (qss_one (qs_ret (q_non))) qss_nil)
      (qss_cons (qs_if (qt_cmp (op_eqX hr.units) ok_eq (nomark _) (q_var 3 (pv 3)) (q_str)) (qss_one (qs_ret (q_callTy call_tuple_of ok_tupOf (by rfl) T.b_tuple (by decide +kernel) (qa_cons (q_of_f (qf_lc (own := [("line", 6)]) (g := (.one 6)) rfl S.nd (qi_seq (q_var 1 (pv 1))) (blkOk_by (own := [("line", 6)]) (N := N_alive_behind) (sc := defScope s_alive_behind) (by decide +kernel)) (by decide) (fun _ _ _ _ _ => pg_name (i := 6) S.nd rfl (Or.inl rfl)) (fun _ _ _ _ _ => qts_one (letI : Xw := Xw.no; (qt_cmp (op_neX hr.units) ok_ne (nomark _) (q_var 6 (pv 6)) (q_var 4 (pv 4))))) (fun _ _ _ _ _ => (letI : Xw := Xw.no; (q_var 6 (pv 6)))))) qa_nil)))) qss_nil)
      (qss_one (qs_ret (q_ifExp (qt_cmp op_ltX ok_ord (nomark _) (q_callB call_len ok_len (by rfl) T.b_len (by decide +kernel) (qa_cons (q_var 1 (pv 1)) qa_nil)) (q_globI (by rfl) T.g_MAX_ALIVE)) (q_callTy call_tuple_of ok_tupOf (by rfl) T.b_tuple (by decide +kernel) (qa_cons (q_callB cr_sortedX ok_sortX (by rfl) T.b_sorted (by decide +kernel) (qa_cons (q_lst (qa_star (q_var 1 (pv 1)) (qa_cons (q_var 4 (pv 4)) qa_nil))) qa_nil)) qa_nil)) (q_non))))))))))))) hspec
theorem sc__law_parts : FnScope N__law_parts ["_law_m"] (defScope s__law_parts) := ⟨rfl, rfl, rfl, by decide +kernel, rfl, by decide +kernel, by decide +kernel⟩
theorem c__law_parts {F : FT} (T : Txt P K mg) (C__law_next : Cal P w K mg base 1 "_law_next" ["_law_m", "_law_many"] F_next) (hlen : ∀ ts n R RE, F ts n R RE → ts.length = 1)
    (hspec : ∀ ts n R RE, F ts n R RE → W__law_parts RE { nx := fun _ n => R .non n, rt := R } (startT N__law_parts ts) n) : Cal P w K mg base 2 "_law_parts" ["_law_m"] F :=
  have S := sc__law_parts
  calT T.d__law_parts S (fun _ _ _ _ _ _ us hl => match us, hl with | [_], _ => rfl) hlen (fun RE => W__law_parts RE) (fun f cdv A outer s H E => fun tk po hgd hr =>
    (qss_cons (qs_set (i := 1) S.nd rfl (Or.inl rfl) (q_cal tk hgd C__law_next hr (by decide) (by rfl) (qa_cons (q_var 0 (pv 0)) (qa_cons (q_int) qa_nil))))
      (qss_cons (qs_par (i := 2) (j := 3) rfl S.nd rfl rfl (by decide) rfl rfl (qa_cons (q_op op_addAll ok_addAll (q_op op_addAll ok_addAll (q_var 1 (pv 1)) (q_int)) (q_cal tk hgd C__law_next hr (by decide) (by rfl) (qa_cons (q_var 0 (pv 0)) (qa_cons (q_int) qa_nil)))) (qa_cons (q_cal tk hgd C__law_next hr (by decide) (by rfl) (qa_cons (q_var 0 (pv 0)) (qa_cons (q_int) qa_nil))) qa_nil)) (by rfl))
      (qss_cons (qs_par (i := 4) (j := 5) rfl S.nd rfl rfl (by decide) rfl rfl (qa_cons (q_op op_addAll ok_addAll (q_str) (q_callTy call_str_int ok_str1 (by rfl) T.b_str (by decide +kernel) (qa_cons (q_var 1 (pv 1)) qa_nil))) (qa_cons (q_op op_addAll ok_addAll (q_str) (q_callTy call_str_int ok_str1 (by rfl) T.b_str (by decide +kernel) (qa_cons (q_var 2 (pv 2)) qa_nil))) qa_nil)) (by rfl))
      (qss_cons (qs_set (i := 6) S.nd rfl (Or.inl rfl) (q_lst (qa_cons (q_tup (qa_cons (q_str) (qa_cons (q_str) (qa_cons (q_var 1 (pv 1)) (qa_cons (q_var 2 (pv 2)) qa_nil))))) (qa_cons (q_tup (qa_cons (q_str) (qa_cons (q_var 5 (pv 5)) qa_nil))) (qa_cons (q_tup (qa_cons (q_str) (qa_cons (q_str) (qa_cons (q_var 1 (pv 1)) qa_nil)))) (qa_cons (q_tup (qa_cons (q_str) (qa_cons (q_op op_addAll ok_addAll (q_op op_addAll ok_addAll (q_var 4 (pv 4)) (q_str)) (q_var 5 (pv 5))) qa_nil))) qa_nil))))))
      (qss_cons (qs_set (i := 6) S.nd rfl (Or.inl rfl) (q_op op_addAll ok_addAll (q_var 6 (pv 6)) (q_lst (qa_cons (q_tup (qa_cons (q_str) (qa_cons (q_var 4 (pv 4)) (qa_cons (q_tup (qa_cons (q_var 3 (pv 3)) (qa_cons (q_tup (qa_cons (q_int) (qa_cons (q_int) qa_nil))) qa_nil))) qa_nil)))) (qa_cons (q_tup (qa_cons (q_str) (qa_cons (q_var 5 (pv 5)) (qa_cons (q_tup (qa_cons (q_int) (qa_cons (q_tup (qa_cons (q_int) qa_nil)) qa_nil))) qa_nil)))) (qa_cons (q_tup (qa_cons (q_str) (qa_cons (q_var 2 (pv 2)) qa_nil))) qa_nil))))))
      (qss_cons (qs_set (i := 7) S.nd rfl (Or.inl rfl) (q_tup (qa_cons (q_tup (qa_cons (q_var 1 (pv 1)) (qa_cons (q_var 2 (pv 2)) qa_nil))) (qa_cons (q_callTy call_tuple_of ok_tupOf (by rfl) T.b_tuple (by decide +kernel) (qa_cons (q_var 6 (pv 6)) qa_nil)) (qa_cons (q_tup (qa_cons (q_tup (qa_cons (q_var 3 (pv 3)) (qa_cons (q_tup (qa_cons (q_int) qa_nil)) qa_nil))) (qa_cons (q_tup (qa_cons (q_int) (qa_cons (q_tup (qa_cons (q_int) (qa_cons (q_int) qa_nil))) qa_nil))) qa_nil))) qa_nil)))))
      (qss_cons (qs_own (i := 8) S.nd rfl (Or.inl rfl) (qf_lst (qa_cons (q_tup (qa_cons (q_tup (qa_cons (q_var 1 (pv 1)) (qa_cons (q_var 2 (pv 2)) qa_nil))) (qa_cons (q_slice (q_ix ix_seq ok_ix (fun _ _ => rfl) (q_var 7 (pv 7)) (q_int)) qo_none (qo_some (q_un un_neg ok_neg (q_int)))) (qa_cons (q_ix ix_seq ok_ix (fun _ _ => rfl) (q_var 7 (pv 7)) (q_int)) qa_nil)))) (qa_cons (q_tup (qa_cons (q_tup (qa_cons (q_var 1 (pv 1)) (qa_cons (q_var 2 (pv 2)) qa_nil))) (qa_cons (q_ix ix_seq ok_ix (fun _ _ => rfl) (q_var 7 (pv 7)) (q_int)) (qa_cons (q_slice (q_ix ix_seq ok_ix (fun _ _ => rfl) (q_var 7 (pv 7)) (q_int)) qo_none (qo_some (q_int))) qa_nil)))) (qa_cons (q_tup (qa_cons (q_tup (qa_cons (q_var 1 (pv 1)) (qa_cons (q_var 2 (pv 2)) qa_nil))) (qa_cons (q_ix ix_seq ok_ix (fun _ _ => rfl) (q_var 7 (pv 7)) (q_int)) (qa_cons (q_revS (q_ix ix_seq ok_ix (fun _ _ => rfl) (q_var 7 (pv 7)) (q_int))) qa_nil)))) qa_nil)))))
      (qss_cons (qs_app 8 (pv 8) (q_tup (qa_cons (q_tup (qa_cons (q_var 1 (pv 1)) (qa_cons (q_var 2 (pv 2)) qa_nil))) (qa_cons (q_ix ix_seq ok_ix (fun _ _ => rfl) (q_var 7 (pv 7)) (q_int)) (qa_cons (q_tup (qa_cons (q_tup (qa_cons (q_op op_sub (ok_intI (g := fun i j => i - j)) (q_int) (q_var 3 (pv 3))) (qa_cons (q_tup (qa_cons (q_int) qa_nil)) qa_nil))) (qa_cons (q_tup (qa_cons (q_int) (qa_cons (q_tup (qa_cons (q_int) (qa_cons (q_int) qa_nil))) qa_nil))) qa_nil))) qa_nil)))))
      (qss_cons (qs_set (i := 9) S.nd rfl (Or.inl rfl) (q_lst (qa_cons (q_tup (qa_cons (q_int) (qa_cons (q_tup (qa_cons (q_str) (qa_cons (q_str) (qa_cons (q_var 2 (pv 2)) (qa_cons (q_var 1 (pv 1)) qa_nil))))) qa_nil))) (qa_cons (q_tup (qa_cons (q_int) (qa_cons (q_tup (qa_cons (q_str) (qa_cons (q_str) (qa_cons (q_var 1 (pv 1)) (qa_cons (q_var 2 (pv 2)) qa_nil))))) qa_nil))) (qa_cons (q_tup (qa_cons (q_int) (qa_cons (q_tup (qa_cons (q_str) (qa_cons (q_op op_addAll ok_addAll (q_str) (q_var 5 (pv 5))) qa_nil))) qa_nil))) (qa_cons (q_tup (qa_cons (q_int) (qa_cons (q_tup (qa_cons (q_str) (qa_cons (q_var 1 (pv 1)) qa_nil))) qa_nil))) qa_nil))))))
      (qss_cons (qs_set (i := 9) S.nd rfl (Or.inl rfl) (q_op op_addAll ok_addAll (q_var 9 (pv 9)) (q_lst (qa_cons (q_tup (qa_cons (q_int) (qa_cons (q_tup (qa_cons (q_str) (qa_cons (q_str) (qa_cons (q_var 1 (pv 1)) qa_nil)))) qa_nil))) (qa_cons (q_tup (qa_cons (q_int) (qa_cons (q_tup (qa_cons (q_str) (qa_cons (q_var 4 (pv 4)) (qa_cons (q_tup (qa_cons (q_op op_sub (ok_intI (g := fun i j => i - j)) (q_int) (q_var 3 (pv 3))) (qa_cons (q_tup (qa_cons (q_int) (qa_cons (q_int) qa_nil))) qa_nil))) qa_nil)))) qa_nil))) (qa_cons (q_tup (qa_cons (q_int) (qa_cons (q_tup (qa_cons (q_str) (qa_cons (q_var 4 (pv 4)) (qa_cons (q_tup (qa_cons (q_var 3 (pv 3)) (qa_cons (q_tup (qa_cons (q_int) qa_nil)) qa_nil))) qa_nil)))) qa_nil))) qa_nil))))))
      (qss_cons (qs_for po rfl (qi_seq (q_var 9 (pv 9))) (qg_tup rfl (qgs_cons (qg_name (i := 10) S.nd rfl (Or.inl rfl)) (qgs_cons (qg_name (i := 11) S.nd rfl (Or.inl rfl)) qgs_nil))) (qss_one (qs_app 8 (pv 8) (q_tup (qa_cons (q_tup (qa_cons (q_var 1 (pv 1)) (qa_cons (q_var 2 (pv 2)) qa_nil))) (qa_cons (q_op op_addAll ok_addAll (q_op op_addAll ok_addAll (q_slice (q_ix ix_seq ok_ix (fun _ _ => rfl) (q_var 7 (pv 7)) (q_int)) qo_none (qo_some (q_var 10 (pv 10)))) (q_tup (qa_cons (q_var 11 (pv 11)) qa_nil))) (q_slice (q_ix ix_seq ok_ix (fun _ _ => rfl) (q_var 7 (pv 7)) (q_int)) (qo_some (q_op op_addAll ok_addAll (q_var 10 (pv 10)) (q_int))) qo_none)) (qa_cons (q_ix ix_seq ok_ix (fun _ _ => rfl) (q_var 7 (pv 7)) (q_int)) qa_nil)))))))
      (qss_cons (qs_app 8 (pv 8) (q_tup (qa_cons (q_tup (qa_cons (q_var 1 (pv 1)) (qa_cons (q_var 2 (pv 2)) qa_nil))) (qa_cons (q_op op_addAll ok_addAll (q_op op_addAll ok_addAll (q_slice (q_ix ix_seq ok_ix (fun _ _ => rfl) (q_var 7 (pv 7)) (q_int)) qo_none (qo_some (q_int))) (q_tup (qa_cons (q_ix ix_seq ok_ix (fun _ _ => rfl) (q_ix ix_seq ok_ix (fun _ _ => rfl) (q_var 7 (pv 7)) (q_int)) (q_int)) (qa_cons (q_ix ix_seq ok_ix (fun _ _ => rfl) (q_ix ix_seq ok_ix (fun _ _ => rfl) (q_var 7 (pv 7)) (q_int)) (q_int)) qa_nil)))) (q_slice (q_ix ix_seq ok_ix (fun _ _ => rfl) (q_var 7 (pv 7)) (q_int)) (qo_some (q_int)) qo_none)) (qa_cons (q_ix ix_seq ok_ix (fun _ _ => rfl) (q_var 7 (pv 7)) (q_int)) qa_nil)))))
      (qss_cons (qs_app 8 (pv 8) (q_ifExp (qt_cmp op_ltX ok_ord (nomark _) (q_var 2 (pv 2)) (q_int)) (q_tup (qa_cons (q_tup (qa_cons (q_var 1 (pv 1)) (qa_cons (q_var 2 (pv 2)) (qa_cons (q_int) qa_nil)))) (qa_cons (q_ix ix_seq ok_ix (fun _ _ => rfl) (q_var 7 (pv 7)) (q_int)) (qa_cons (q_ix ix_seq ok_ix (fun _ _ => rfl) (q_var 7 (pv 7)) (q_int)) qa_nil)))) (q_tup (qa_cons (q_tup (qa_cons (q_var 1 (pv 1)) (qa_cons (q_var 2 (pv 2)) qa_nil))) (qa_cons (q_op op_addAll ok_addAll (q_ix ix_seq ok_ix (fun _ _ => rfl) (q_var 7 (pv 7)) (q_int)) (q_tup (qa_cons (q_tup (qa_cons (q_str) (qa_cons (q_str) (qa_cons (q_var 1 (pv 1)) qa_nil)))) qa_nil))) (qa_cons (q_ix ix_seq ok_ix (fun _ _ => rfl) (q_var 7 (pv 7)) (q_int)) qa_nil))))))
      (qss_one (qs_ret (q_tup (qa_cons (q_var 7 (pv 7)) (qa_cons (q_var 8 (pv 8)) qa_nil))))))))))))))))))) hspec
theorem sc__law_is_refused : FnScope N__law_is_refused ["_law_entering", "_law_deeds", "_law_spoken"] (defScope s__law_is_refused) := ⟨rfl, rfl, rfl, by decide +kernel, rfl, by decide +kernel, by decide +kernel⟩
theorem c__law_is_refused {F_Program_init : FTI} {F : FT} (T : Txt P K mg) (I_Program_init : ICal P w K mg base 8 "Program" "Program.__init__" s_Program_init ["self", "inputs", "statements", "tells"] [(.tup [])] F_Program_init) (hlen : ∀ ts n R RE, F ts n R RE → ts.length = 3)
    (hspec : ∀ ts n R RE, F ts n R RE → W__law_is_refused RE F_Program_init { nx := fun _ n => R .non n, rt := R } (startT N__law_is_refused ts) n) : Cal P w K mg base 10 "_law_is_refused" ["_law_entering", "_law_deeds", "_law_spoken"] F :=
  have S := sc__law_is_refused
  calT T.d__law_is_refused S (fun _ _ _ _ _ _ us hl => match us, hl with | [_, _, _], _ => rfl) hlen (fun RE => W__law_is_refused RE F_Program_init) (fun f cdv A outer s H E => fun tk po hgd hr =>
    (qss_cons (qs_set (i := 3) S.nd rfl (Or.inl rfl) (q_bl))
      (qss_cons (qs_try tk S.nd rfl rfl rfl (fun W pn xe RE tk po => letI : Xw := ⟨W, RE⟩; (qss_one (qs_expr (q_make tk hgd I_Program_init B_Program_init_4 hr (by decide) (by rfl) (qa_cons (q_var 0 (pv 0)) (qa_cons (q_var 1 (pv 1)) (qa_cons (q_var 2 (pv 2)) qa_nil))))))) (TClsOk.cons (c := ⟨["BadProgram"], none, (wsSet 3 (wC (.bl true)))⟩) (test_one ⟨by rfl, by decide, .inl (T.n_BadProgram).choose_spec.1⟩) (T.hv_BadProgram _ (T.n_BadProgram).choose_spec.2) True.intro (fun a pn => letI : Xw := Xw.no; (qss_one (qs_set (i := 3) S.nd rfl (Or.inl rfl) (q_bl)))) TClsOk.nil))
      (qss_one (qs_ret (q_var 3 (pv 3))))))) hspec
theorem sc__law_kinds_right : FnScope N__law_kinds_right ["_law_a"] (defScope s__law_kinds_right) := ⟨rfl, rfl, rfl, by decide +kernel, rfl, by decide +kernel, by decide +kernel⟩
theorem c__law_kinds_right {F__law_is_refused : FT} {F : FT} (T : Txt P K mg) (C__law_is_refused : Cal P w K mg base 10 "_law_is_refused" ["_law_entering", "_law_deeds", "_law_spoken"] F__law_is_refused) (hlen : ∀ ts n R RE, F ts n R RE → ts.length = 1)
    (hspec : ∀ ts n R RE, F ts n R RE → W__law_kinds_right RE F__law_is_refused { nx := fun _ n => R .non n, rt := R } (startT N__law_kinds_right ts) n) : Cal P w K mg base 11 "_law_kinds_right" ["_law_a"] F :=
  have S := sc__law_kinds_right
  calT T.d__law_kinds_right S (fun _ _ _ _ _ _ us hl => match us, hl with | [_], _ => rfl) hlen (fun RE => W__law_kinds_right RE F__law_is_refused) (fun f cdv A outer s H E => fun tk po hgd hr =>
    (qss_cons (qs_set (i := 1) S.nd rfl (Or.inl rfl) (q_tup (qa_cons (q_str) (qa_cons (q_op op_addAll ok_addAll (q_str) (q_callTy call_str_int ok_str1 (by rfl) T.b_str (by decide +kernel) (qa_cons (q_var 0 (pv 0)) qa_nil))) qa_nil))))
      (qss_cons (qs_set (i := 2) S.nd rfl (Or.inl rfl) (q_op op_addAll ok_addAll (q_str) (q_callTy call_str_int ok_str1 (by rfl) T.b_str (by decide +kernel) (qa_cons (q_var 0 (pv 0)) qa_nil))))
      (qss_cons (qs_own (i := 3) S.nd rfl (Or.inl rfl) (qf_lst (qa_cons (q_tup (qa_cons (q_tup (qa_cons (q_var 0 (pv 0)) qa_nil)) (qa_cons (q_tup (qa_cons (q_var 1 (pv 1)) (qa_cons (q_tup (qa_cons (q_str) (qa_cons (q_var 2 (pv 2)) (qa_cons (q_tup (qa_cons (q_bl) (qa_cons (q_tup (qa_cons (q_int) qa_nil)) qa_nil))) qa_nil)))) qa_nil))) (qa_cons (q_tup qa_nil) qa_nil)))) (qa_cons (q_tup (qa_cons (q_tup (qa_cons (q_var 0 (pv 0)) qa_nil)) (qa_cons (q_tup (qa_cons (q_var 1 (pv 1)) (qa_cons (q_tup (qa_cons (q_str) (qa_cons (q_var 2 (pv 2)) (qa_cons (q_tup (qa_cons (q_int) (qa_cons (q_tup (qa_cons (q_bl) qa_nil)) qa_nil))) qa_nil)))) qa_nil))) (qa_cons (q_tup qa_nil) qa_nil)))) qa_nil))))
      (qss_cons (qs_frz (qs_own (i := 3) S.nd rfl (Or.inl rfl) (qf_cat (q_var 3 (pv 3)) (q_lst (qa_cons (q_tup (qa_cons (q_tup (qa_cons (q_var 0 (pv 0)) qa_nil)) (qa_cons (q_tup (qa_cons (q_var 1 (pv 1)) (qa_cons (q_tup (qa_cons (q_str) (qa_cons (q_var 2 (pv 2)) (qa_cons (q_tup (qa_cons (q_int) (qa_cons (q_lst (qa_cons (q_int) qa_nil)) qa_nil))) qa_nil)))) qa_nil))) (qa_cons (q_tup qa_nil) qa_nil)))) (qa_cons (q_tup (qa_cons (q_tup (qa_cons (q_var 0 (pv 0)) qa_nil)) (qa_cons (q_tup (qa_cons (q_var 1 (pv 1)) (qa_cons (q_tup (qa_cons (q_str) (qa_cons (q_var 2 (pv 2)) (qa_cons (q_lst (qa_cons (q_int) (qa_cons (q_tup (qa_cons (q_int) qa_nil)) qa_nil))) qa_nil)))) qa_nil))) (qa_cons (q_tup qa_nil) qa_nil)))) qa_nil))))))
      (qss_cons (qs_frz (qs_own (i := 3) S.nd rfl (Or.inl rfl) (qf_cat (q_var 3 (pv 3)) (q_lst (qa_cons (q_tup (qa_cons (q_tup (qa_cons (q_var 0 (pv 0)) qa_nil)) (qa_cons (q_tup (qa_cons (q_var 1 (pv 1)) qa_nil)) (qa_cons (q_tup (qa_cons (q_tup (qa_cons (q_bl) (qa_cons (q_tup (qa_cons (q_int) qa_nil)) qa_nil))) qa_nil)) qa_nil)))) (qa_cons (q_tup (qa_cons (q_tup (qa_cons (q_var 0 (pv 0)) qa_nil)) (qa_cons (q_tup (qa_cons (q_var 1 (pv 1)) qa_nil)) (qa_cons (q_lst (qa_cons (q_tup (qa_cons (q_int) (qa_cons (q_tup (qa_cons (q_int) qa_nil)) qa_nil))) qa_nil)) qa_nil)))) (qa_cons (q_tup (qa_cons (q_tup (qa_cons (q_var 0 (pv 0)) qa_nil)) (qa_cons (q_lst (qa_cons (q_var 1 (pv 1)) qa_nil)) (qa_cons (q_tup qa_nil) qa_nil)))) (qa_cons (q_tup (qa_cons (q_lst (qa_cons (q_var 0 (pv 0)) qa_nil)) (qa_cons (q_tup qa_nil) (qa_cons (q_tup qa_nil) qa_nil)))) qa_nil))))))))
      (qss_cons (qs_frz (qs_own (i := 3) S.nd rfl (Or.inl rfl) (qf_cat (q_var 3 (pv 3)) (q_lst (qa_cons (q_tup (qa_cons (q_tup (qa_cons (q_var 0 (pv 0)) qa_nil)) (qa_cons (q_tup (qa_cons (q_lst (qa_cons (q_str) (qa_cons (q_op op_addAll ok_addAll (q_str) (q_callTy call_str_int ok_str1 (by rfl) T.b_str (by decide +kernel) (qa_cons (q_var 0 (pv 0)) qa_nil))) qa_nil))) qa_nil)) (qa_cons (q_tup qa_nil) qa_nil)))) (qa_cons (q_tup (qa_cons (q_tup (qa_cons (q_bl) qa_nil)) (qa_cons (q_tup qa_nil) (qa_cons (q_tup qa_nil) qa_nil)))) (qa_cons (q_tup (qa_cons (q_tup (qa_cons (q_int) qa_nil)) (qa_cons (q_tup (qa_cons (q_tup (qa_cons (q_str) (qa_cons (q_str) (qa_cons (q_bl) qa_nil)))) qa_nil)) (qa_cons (q_tup qa_nil) qa_nil)))) qa_nil)))))))
      (qss_cons (qs_frz (qs_own (i := 3) S.nd rfl (Or.inl rfl) (qf_cat (q_var 3 (pv 3)) (q_lst (qa_cons (q_tup (qa_cons (q_tup (qa_cons (q_int) (qa_cons (q_int) qa_nil))) (qa_cons (q_tup (qa_cons (q_tup (qa_cons (q_str) (qa_cons (q_str) (qa_cons (q_bl) (qa_cons (q_bl) qa_nil))))) qa_nil)) (qa_cons (q_tup qa_nil) qa_nil)))) (qa_cons (q_tup (qa_cons (q_tup (qa_cons (q_int) qa_nil)) (qa_cons (q_tup (qa_cons (q_tup (qa_cons (q_str) (qa_cons (q_bl) qa_nil))) qa_nil)) (qa_cons (q_tup qa_nil) qa_nil)))) qa_nil))))))
      (qss_cons (qs_app 3 (pv 3) (q_tup (qa_cons (q_tup qa_nil) (qa_cons (q_tup (qa_cons (q_tup (qa_cons (q_str) (qa_cons (q_bl) qa_nil))) qa_nil)) (qa_cons (q_tup qa_nil) qa_nil)))))
      (qss_one (qs_ret (q_cmp (op_eqX hr.units) ok_eq (nomark _) (q_of_f (qf_lc (own := [("_law_entering", 4), ("_law_deeds", 5), ("_law_spoken", 6)]) (g := (.many [4, 5, 6])) rfl S.nd (qi_seq (q_var 3 (pv 3))) (blkOk_by (own := [("_law_entering", 4), ("_law_deeds", 5), ("_law_spoken", 6)]) (N := N__law_kinds_right) (sc := defScope s__law_kinds_right) (by decide +kernel)) (by decide) (fun _ _ _ _ _ => pg_tup rfl (pgs_cons (pg_name (i := 4) S.nd rfl (Or.inl rfl)) (pgs_cons (pg_name (i := 5) S.nd rfl (Or.inl rfl)) (pgs_cons (pg_name (i := 6) S.nd rfl (Or.inl rfl)) pgs_nil)))) (fun _ _ _ _ _ => qts_one (letI : Xw := Xw.no; (qt_not (qt_val (q_cal TL.takes0 hgd C__law_is_refused hr (by decide) (by rfl) (qa_cons (q_var 4 (pv 4)) (qa_cons (q_var 5 (pv 5)) (qa_cons (q_var 6 (pv 6)) qa_nil)))))))) (fun _ _ _ _ _ => (letI : Xw := Xw.no; (q_int))))) (q_lst qa_nil))))))))))))) hspec
theorem sc_law : FnScope N_law ["_law_script"] (defScope s_law) := ⟨rfl, rfl, rfl, by decide +kernel, rfl, by decide +kernel, by decide +kernel⟩
theorem sc_Program_init : FnScope N_Program_init ["self", "inputs", "statements", "tells"] (defScope s_Program_init) := ⟨rfl, rfl, rfl, by decide +kernel, rfl, by decide +kernel, by decide +kernel⟩
theorem i_Program_init {F_is_parity : FT} {F_alive_behind : FT} {F_is_measurement : FT} {F_are_lines : FT} {F : FTI} (T : Txt P K mg) (C_is_parity : Cal P w K mg base 3 "is_parity" ["value", "many"] F_is_parity) (C_alive_behind : Cal P w K mg base 7 "alive_behind" ["statement", "alive", "many"] F_alive_behind) (C_is_measurement : Cal P w K mg base 1 "is_measurement" ["statement"] F_is_measurement) (C_are_lines : Cal P w K mg base 2 "are_lines" ["value"] F_are_lines) (hlen : ∀ ts n R RE, F ts n R RE → ts.length = 3)
    (hspec : ∀ ts n R RE, F ts n R RE → ∀ l, W_Program_init RE F_is_parity F_alive_behind F_is_measurement F_are_lines (startT N_Program_init (.cst l :: ts)) n R) : ICal P w K mg base 8 "Program" "Program.__init__" s_Program_init ["self", "inputs", "statements", "tells"] [(.tup [])] F :=
  have S := sc_Program_init
  calI T.i_Program S (oc_Program T.clf) hlen (fun RE => W_Program_init RE F_is_parity F_alive_behind F_is_measurement F_are_lines) (fun f cdv A outer s H E => fun tk po hgd hr =>
    (qn_seq (qs_if (qt_bool (qw_or (qt_not (qt_val (q_cal tk hgd C_are_lines hr (by decide) (by rfl) (qa_cons (q_var 1 (pv 1)) qa_nil)))) (qw_or (qt_cmp op_gtX ok_ord (nomark _) (q_callB call_len ok_len (by rfl) T.b_len (by decide +kernel) (qa_cons (q_var 1 (pv 1)) qa_nil)) (q_globI (by rfl) T.g_MAX_INPUTS)) (qw_or1 (qt_not (qt_val (q_callB call_isi ok_isi (by rfl) T.b_isinstance (by decide +kernel) (qa_cons (q_var 2 (pv 2)) (qa_cons (q_bty (by rfl) T.b_tuple (by decide +kernel)) qa_nil))))))))) (qss_one (qs_raise tk rfl (T.x_BadProgram).choose_spec.2.2 (T.x_BadProgram).choose_spec.2.1 ini_BadProgram T.top hr (by rfl) (T.x_BadProgram).choose_spec.1 (q_un un_neg ok_neg (q_int)))) qss_nil)
      (qn_seq (qs_asgF rfl S.nd (NmL.cons rfl (Or.inl rfl) (by first | exact .inl rfl | exact .inr rfl) rfl (NmL.cons rfl (Or.inr rfl) (by first | exact .inl rfl | exact .inr rfl) rfl NmL.nil)) (qaf_f (qf_lst (qa_cons (q_var 1 (pv 1)) qa_nil)) (qaf_e (q_int) qaf_nil)))
      (qn_seq (qs_for po rfl (qi_enumX (by rfl) T.b_enumerate (qa_cons (q_var 2 (pv 2)) qa_nil)) (qg_tup rfl (qgs_cons (qg_name (i := 6) S.nd rfl (Or.inl rfl)) (qgs_cons (qg_name (i := 7) S.nd rfl (Or.inl rfl)) qgs_nil))) (qss_cons (qs_set (i := 8) S.nd rfl (Or.inl rfl) (q_cal tk hgd C_alive_behind hr (by decide) (by rfl) (qa_cons (q_var 7 (pv 7)) (qa_cons (q_ixOwn (pv 4) (q_un un_neg ok_neg (q_int)) (fun _ _ => rfl)) (qa_cons (q_var 5 (pv 5)) qa_nil)))))
      (qss_cons (qs_if (qt_bool (qw_or (qt_cmp op_isX ok_is (nomark _) (q_var 8 (pv 8)) (q_non)) (qw_or1 (qt_cmp (op_eqX hr.units) ok_eq (nomark _) (q_var 6 (pv 6)) (q_globI (by rfl) T.g_MAX_STATEMENTS))))) (qss_one (qs_raise tk rfl (T.x_BadProgram).choose_spec.2.2 (T.x_BadProgram).choose_spec.2.1 ini_BadProgram T.top hr (by rfl) (T.x_BadProgram).choose_spec.1 (q_var 6 (pv 6)))) qss_nil)
      (qss_cons (qs_app 4 (pv 4) (q_var 8 (pv 8)))
      (qss_one (qs_aug S.nd rfl (Or.inr rfl) (q_ifExp (qt_val (q_cal tk hgd C_is_measurement hr (by decide) (by rfl) (qa_cons (q_var 7 (pv 7)) qa_nil))) (q_int) (q_int)) (pip_of iop_addX) ok_iaddX))))))
      (qn_seq (qs_frz (qs_if (qt_bool (qw_or (qt_not (qt_val (q_callB call_isi ok_isi (by rfl) T.b_isinstance (by decide +kernel) (qa_cons (q_var 3 (pv 3)) (qa_cons (q_bty (by rfl) T.b_tuple (by decide +kernel)) qa_nil))))) (qw_or (qt_cmp op_gtX ok_ord (nomark _) (q_callB call_len ok_len (by rfl) T.b_len (by decide +kernel) (qa_cons (q_var 3 (pv 3)) qa_nil)) (q_globI (by rfl) T.g_MAX_TELLS)) (qw_or1 (qt_not (qt_val (q_callB (cr_all rfl) (ok_all (g := fun bs => bs.all id)) (by rfl) T.b_all (by decide +kernel) (qa_cons (q_of_f (qf_lc (own := [("one", 9)]) (g := (.one 9)) rfl S.nd (qi_seq (q_var 3 (pv 3))) (blkOk_by (own := [("one", 9)]) (N := N_Program_init) (sc := defScope s_Program_init) (by decide +kernel)) (by decide) (fun _ _ _ _ _ => pg_name (i := 9) S.nd rfl (Or.inl rfl)) (fun _ _ _ _ _ => qts_nil) (fun _ _ _ _ _ => (letI : Xw := Xw.no; (q_cal TL.takes0 hgd C_is_parity hr (by decide) (by rfl) (qa_cons (q_var 9 (pv 9)) (qa_cons (q_var 5 (pv 5)) qa_nil))))))) qa_nil)))))))) (qss_one (qs_raise tk rfl (T.x_BadProgram).choose_spec.2.2 (T.x_BadProgram).choose_spec.2.1 ini_BadProgram T.top hr (by rfl) (T.x_BadProgram).choose_spec.1 (q_callB call_len ok_len (by rfl) T.b_len (by decide +kernel) (qa_cons (q_var 2 (pv 2)) qa_nil)))) qss_nil))
      (qn_tail (flds := ["inputs", "statements", "tells", "outputs", "bits", "rows"]) (fl_Program T.clf) (qn_cons (by decide) (pv 0) (letI : Xw := Xw.no; (q_var 1 (pv 1))) (qn_cons (by decide) (pv 0) (letI : Xw := Xw.no; (q_var 2 (pv 2))) (qn_cons (by decide) (pv 0) (letI : Xw := Xw.no; (q_var 3 (pv 3))) (qn_cons (by decide) (pv 0) (letI : Xw := Xw.no; (q_ix ix_seq ok_ix (fun _ _ => rfl) (q_var 4 (pv 4)) (q_un un_neg ok_neg (q_int)))) (qn_cons (by decide) (pv 0) (letI : Xw := Xw.no; (q_var 5 (pv 5))) (qn_cons (by decide) (pv 0) (letI : Xw := Xw.no; (q_var 4 (pv 4))) qn_nil)))))))))))) hspec
theorem sc_Program_eq : FnScope N_Program_eq ["self", "other"] (defScope s_Program_eq) := ⟨rfl, rfl, rfl, by decide +kernel, rfl, by decide +kernel, by decide +kernel⟩
theorem m_Program_eq {F : FT} (T : Txt P K mg) (hlen : ∀ ts n R RE, F ts n R RE → ts.length = 2)
    (hspec : ∀ ts n R RE, F ts n R RE → W_Program_eq RE { nx := fun _ n => R .non n, rt := R } (startT N_Program_eq ts) n) : MCal P w K mg base 1 "Program" "__eq__" "Program.__eq__" s_Program_eq ["self", "other"] [] F :=
  have S := sc_Program_eq
  calM T.m_Program_eq S hlen (fun RE => W_Program_eq RE) (fun f cdv A outer s H E => fun tk po hgd hr =>
    (qss_cons (qs_if (qt_not (qt_val (q_callB (call_isiX T.clf) (ok_isiX T.clf) (by rfl) T.b_isinstance (by decide +kernel) (qa_cons (q_var 1 (pv 1)) (qa_cons (q_globC (by rfl) (T.n_Program).choose_spec.1 (T.n_Program).choose_spec.2) qa_nil))))) (qss_one (qs_ret (q_bl))) qss_nil)
      (qss_one (qs_ret (q_and (q_cmp (op_eqX hr.units) ok_eq (nomark _) (q_attr T.clf (q_var 0 (pv 0))) (q_attr T.clf (q_var 1 (pv 1)))) (q_and (q_cmp (op_eqX hr.units) ok_eq (nomark _) (q_attr T.clf (q_var 0 (pv 0))) (q_attr T.clf (q_var 1 (pv 1)))) (q_one (q_cmp (op_eqX hr.units) ok_eq (nomark _) (q_attr T.clf (q_var 0 (pv 0))) (q_attr T.clf (q_var 1 (pv 1))))))))))) hspec
end
end K13
namespace TL
open PySem L2
/-! the head: defaults, tables -/
section
variable [Mach] [CN] [Xw] {K : PySem.W.Frag}
inductive DIts (K : PySem.W.Frag) : List Value → List T → List V → Prop
  | nil : DIts K [] [] []
  | flat {v : Value} {t : T} {vs ts xs} (e : absF v = some (toV t)) (f : flatT t = true) (r : DIts K vs ts xs) : DIts K (v :: vs) (t :: ts) (toV t :: xs)
  | unit {E : Addr} {od : Option Addr} {it : Array Value} {n : Nat} {sl : Array (Option Value)} {vs ts xs} (l : K.lookup E = some ⟨.type "tuple", od, .seq it n, sl⟩) (e : it.toList = []) (r : DIts K vs ts xs) : DIts K (.ref E :: vs) (.tup [] :: ts) (.ref E :: xs)
theorem DIts.vals {vs : List Value} {ts : List T} {xs : List V} (h : DIts K vs ts xs) : Vals xs vs := by
  induction h with
  | nil => exact .nil
  | flat e f r ih => exact .cons (absF_ok e) ih
  | unit l e r ih => exact .cons rfl ih
theorem DIts.reps {am : Option Addr} {H : Hp} {vs : List Value} {ts : List T} {xs : List V} (h : DIts K vs ts xs) : Reps K am H ts xs := by
  induction h with
  | nil => exact Reps.nil_iff.mpr rfl
  | flat e f r ih => exact Reps.mk_cons (flat_rep f) ih
  | @unit E od it n sl vs ts xs l e r ih =>
    refine Reps.mk_cons ?_ ih
    simp only [Rep]
    have e2 : it.size = 0 := by have := congrArg List.length e; simpa using this
    exact ⟨E, [], rfl, .inr ⟨_, it, n, l, rfl, rfl, by rw [e2]; decide, by rw [e]; exact .nil⟩, Reps.nil_iff.mpr rfl⟩
theorem dfl_mk {D : Addr} {od : Option Addr} {it : Array Value} {n : Nat} {sl : Array (Option Value)} {vs : List Value} {ts : List T} {xs : List V} (l : K.lookup D = some ⟨.type "tuple", od, .seq it n, sl⟩) (hv : it.toList = vs) (h : DIts K vs ts xs) (ne : xs ≠ []) : DflV K (.ref D) xs ∧ ∀ am H, Reps K am H ts xs :=
  ⟨.inr ⟨ne, D, _, it.toList, n, rfl, l, by simp, by rw [hv]; exact h.vals⟩, fun am H => h.reps⟩
theorem dfl_none : DflV K .none [] ∧ ∀ am H, Reps K am H [] [] := ⟨.inl ⟨rfl, rfl⟩, fun am H => Reps.nil_iff.mpr rfl⟩
theorem funm_mk {x qual : Str} {st : Stmt} {f : Addr} {oc : Value} {od an : Option Addr} {osl : Array (Option Value)} {dV kV doc pm cdv ct : Value} {dvs : List V} (l : K.lookup f = some ⟨oc, od, .func (PySem.W.fnOf x qual (defArgs st) (defBody st) (defScope st) dV kV doc pm an cdv ct), osl⟩)
    (c : PySem.W.codeIn K cdv qual = true) (k : PySem.W.keepIn K (.ref f) = true) (d : DflV K dV dvs) : FunM K x qual st dvs f (PySem.W.fnOf x qual (defArgs st) (defBody st) (defScope st) dV kV doc pm an cdv ct) := ⟨⟨oc, od, dV, kV, doc, pm, an, cdv, ct, osl, rfl, l, c, d, .inl rfl⟩, k⟩
end
section
variable [Mach] [CN] {K : PySem.W.Frag}
theorem at_q {c : Str} {A : Addr} {Q : Addr → Prop} (e : CN.at_ c = some A) (q : Q A) : ∀ C, CN.at_ c = some C → Q C := fun C h => by
  rw [e] at h; cases h; exact q
theorem clF_mk [XCl] {famL : List (Str × List Str)} (hF : ∀ c, XCl.fam c = famL.lookup c)
    (hn : PySem.W.specialIn K (.builtin "object.__class__") "__get__" = some (some (.builtin "getset_descriptor.__get__"))) (htk : PySem.W.takesIn K (.builtin "object.__class__") = some true)
    (ob : AllL (fun p : Str × List Str => ∀ C, CN.at_ p.1 = some C → XCl.exc p.1 = false → ObjC K C ∧ ∀ f ∈ XCl.flds p.1, NoAttr K C f) famL)
    (ex : AllL (fun p : Str × List Str => ∀ C, CN.at_ p.1 = some C → XCl.exc p.1 = true → ExcK K C ∧ ∀ f ∈ XCl.flds p.1, PySem.W.findIn K (.ref C) f = some none) famL)
    (isa : AllL (fun p : Str × List Str => ∀ C, CN.at_ p.1 = some C → AllL (fun c' => ∀ C', CN.at_ c' = some C' → PySem.W.kitOne K (.ref C) (.ref C') = some (p.2.contains c')) XCl.asked) famL)
    (isb : AllL (fun p : Str × List Str => ∀ C, CN.at_ p.1 = some C → AllL (fun t => PySem.W.kitOne K (.ref C) (.type t) = some (p.2.contains (t : Str))) XCl.tys) famL)
    (bi : AllL (fun c : Str => ∀ C, CN.at_ c = some C → AllL (fun t => PySem.W.kitOne K (.type t) (.ref C) = some false) ["NoneType", "int", "bool", "str", "tuple", "list", "dict"]) XCl.asked) : ClF K where
  hn := hn
  htk := htk
  ob := fun c C h1 h2 h3 => by
    rw [hF] at h2
    obtain ⟨f, e⟩ := Option.isSome_iff_exists.mp h2
    exact ob.look e C h1 h3
  ex := fun c C h1 h2 h3 => by
    rw [hF] at h2
    obtain ⟨f, e⟩ := Option.isSome_iff_exists.mp h2
    exact ex.look e C h1 h3
  isa := fun c C f c' h1 h2 h3 C' h4 => (isa.look ((hF c).symm.trans h2) C h1).mem c' h3 C' h4
  isb := fun c C f h1 h2 t ht => (isb.look ((hF c).symm.trans h2) C h1).mem t ht
  bi := fun c C h1 h2 t ht => (bi.mem c h2 C h1).mem t ht
theorem hdv_mk [XCl] {famL : List (Str × List Str)} {cs : List Str} {vs : List Value} (hF : ∀ c, XCl.fam c = famL.lookup c) (h : AllL (fun p : Str × List Str => ∃ C, CN.at_ p.1 = some C ∧ PySem.W.exmAny K (.ref C) vs = some (cs.any (p.2.contains ·))) famL) : HdV K cs vs :=
  fun cls f e => h.look ((hF cls).symm.trans e)
end
end TL
namespace K13
open PySem L2 TL
local instance : Mach := machA
local instance : Xw := Xw.no
local instance : XCl := xcl
theorem sc__law_next : FnScope N_next ["_law_m", "_law_many"] (defScope s__law_next) := ⟨rfl, rfl, rfl, by decide +kernel, rfl, by decide +kernel, by decide +kernel⟩
section
variable [CN] {P : Program} {w : World} {K : PySem.W.Frag} {mg : Str → Option Value} {base : Heap}
theorem ok_next {f : Addr} {fd : FuncData} (G : Fun K "_law_next" "_law_next" s__law_next f fd) (b_int : mg "int" = none) (b_len : mg "len" = none) : FnT P w K mg base 1 f fd ["_law_m", "_law_many"] (spT K F_next) := by
  refine FnT.of (G.okX sc__law_next (fun vs H Q E h => ?_) (fun cdv A outer s H0 vs Q E hr h => ?_))
  · obtain ⟨am, Hs, ts, n, R, RE, sp, re, ⟨many, rfl, _⟩, _⟩ := h
    rw [← re.length]; rfl
  obtain ⟨am, Hs, ts, n, R, RE, sp, re, ⟨many, rfl, hm0, hm1, hn, hR⟩, kk, _⟩ := h
  obtain ⟨v, r, rfl, h1, h2⟩ := Reps.cons_iff.mp re
  obtain ⟨v', rfl, h3⟩ := h2.one
  simp only [Rep] at h1 h3
  obtain ⟨m, rfl, rfl⟩ := h1
  subst h3
  have hu := hu_of hr
  have nd := sc__law_next.nd
  have boot_int : bootBuiltins ("int" : Str) = some (.type "int") := by decide +kernel
  have boot_len : bootBuiltins ("len" : Str) = some (.builtin "len") := by decide +kernel
  refine ⟨_, PSs.nox (pss_cons (ps_while PassesOwn.never (PW.pt (pw_and (pt_cmpR (op_neD hr.units) (pe_dget hu (pv 0) pe_str (fun _ _ => rfl)) (pe_lst pa_nil) (nomark _)) (pw_and1 (pt_cmpR op_eq (pe_ix ix_list (pe_dget hu (pv 0) pe_str (fun _ _ => rfl)) pe_int (fun _ _ => rfl)) pe_int (nomark _)))))
      (pss_one (ps_dput hu (pv 0) pe_str (pe_slice sl_list (pe_dget hu (pv 0) pe_str (fun _ _ => rfl)) (po_some pe_int) po_none) rfl)))
    (pss_cons (ps_if (pt_cmpR (op_neD hr.units) (pe_dget hu (pv 0) pe_str (fun _ _ => rfl)) (pe_lst pa_nil) (nomark _))
      (pss_cons (ps_set (i := 2) nd rfl (Or.inl rfl) (pe_callTy call_int1 (by rfl) b_int boot_int (pa_cons (pe_ix ix_list (pe_dget hu (pv 0) pe_str (fun _ _ => rfl)) pe_int (fun _ _ => rfl)) pa_nil)))
        (pss_cons (ps_asg (pe_op op_fdiv (pv 2) (pv 1)) (pg_sub (pe_dget hu (pv 0) pe_str (fun _ _ => rfl)) pe_int set_list)) (pss_one (ps_ret (pe_op op_mod (pv 2) (pv 1)))))) pss_nil)
    (pss_cons (ps_set (i := 3) nd rfl (Or.inl rfl) (pe_op op_add (pe_dget hu (pv 0) pe_str (fun _ _ => rfl)) pe_int))
    (pss_cons (ps_dput hu (pv 0) pe_str (pv 3) rfl)
    (pss_cons (ps_set (i := 4) nd rfl (Or.inl rfl) (pe_ifExp (pt_cmpR (op_neD hr.units) (pe_dget hu (pv 0) pe_str (fun _ _ => rfl)) (pe_lst pa_nil) (nomark _)) (pe_ix ix_list (pe_dget hu (pv 0) pe_str (fun _ _ => rfl)) (pe_op op_mod (pe_callTy call_int1 (by rfl) b_int boot_int (pa_cons (pv 3) pa_nil)) (pe_callB call_len (by rfl) b_len boot_len (pa_cons (pe_dget hu (pv 0) pe_str (fun _ _ => rfl)) pa_nil))) (fun _ _ => rfl)) pe_int))
    (pss_cons (ps_set (i := 5) nd rfl (Or.inl rfl) (pe_op op_mul (pe_callTy call_int1 (by rfl) b_int boot_int (pa_cons (pe_op op_add (pe_op op_add (pe_op op_mod (pe_callTy call_int1 (by rfl) b_int boot_int (pa_cons (pv 4) pa_nil)) pe_int) (pe_op op_mul pe_int (pv 3))) (pe_op op_mul (pe_op op_mul pe_int (pv 3)) (pv 3))) pa_nil)) pe_int))
    (pss_cons (ps_set (i := 5) nd rfl (Or.inl rfl) (pe_op op_mul (pe_callTy call_int1 (by rfl) b_int boot_int (pa_cons (pe_op op_add (pe_op op_mod (pe_callTy call_int1 (by rfl) b_int boot_int (pa_cons (pv 5) pa_nil)) pe_int) (pe_op op_mul pe_int (pv 3))) pa_nil)) pe_int))
    (pss_one (ps_ret (pe_op op_mod (pe_callTy call_int1 (by rfl) b_int boot_int (pa_cons (pe_op op_fdiv (pe_op op_mod (pe_callTy call_int1 (by rfl) b_int boot_int (pa_cons (pv 5) pa_nil)) pe_int) pe_int) pa_nil)) (pv 1))))))))))), ?_⟩
  exact read_next sp hm0 hm1 hn (fun r H' h0 h1 x => kk (.int r) (n - 1) (hR r h0 h1) _ Hs H' x (by simp only [Rep]))
theorem c__law_next (T : Txt P K mg) : Cal P w K mg base 1 "_law_next" ["_law_m", "_law_many"] F_next := by
  obtain ⟨f, fd, G, hm⟩ := T.d__law_next
  exact ⟨f, fd, ok_next G T.b_int T.b_len, hm, G.kp, G.binds (fun _ _ _ _ _ _ us hl => match us, hl with | [_, _], _ => rfl)⟩
def N_begun : List Str := ["_law_script", "_law_cell"]
theorem sc__law_begun : FnScope N_begun ["_law_script"] (defScope s__law_begun) := ⟨rfl, rfl, rfl, by decide +kernel, rfl, by decide +kernel, by decide +kernel⟩
theorem ok_begun {f : Addr} {fd : FuncData} (G : Fun K "_law_begun" "_law_begun" s__law_begun f fd) (b_list : mg "list" = none) : FnT P w K mg base 1 f fd ["_law_script"] (spBegun K) := by
  refine FnT.of (G.okX sc__law_begun (fun vs H Q E h => ?_) (fun cdv A outer s H0 vs Q E hr h => ?_))
  · obtain ⟨a, ns, rfl, _⟩ := h
    rfl
  obtain ⟨a, ns, rfl, hS, hl, hk⟩ := h
  have S := sc__law_begun
  refine ⟨_, pss_one (ps_ret (pe_disp (pps_cons pe_str (pe_callTy call_list_of (by rfl) b_list (by decide +kernel) (pa_cons (pv 0) pa_nil)) (pps_cons pe_str (qf_lc (own := [("_law_cell", 1)]) (g := (.one 1)) rfl S.nd (qi_seq (q_var 0 (pv 0))) (blkOk_by (own := [("_law_cell", 1)]) (N := N_begun) (sc := defScope s__law_begun) (by decide +kernel)) (by decide) (fun _ _ _ _ _ => pg_name (i := 1) S.nd rfl (Or.inl rfl)) (fun _ _ _ _ _ => qts_one (qt_cmp op_geX ok_ord (nomark _) (q_var 1 (pv 1)) (q_op op_pow (ok_intC (C := CPow) (g := fun i j => i ^ j.toNat)) q_int q_int))) (fun _ _ _ _ _ => q_var 1 (pv 1))) (pps_cons pe_str pe_int pps_nil))) rfl rfl (by intro z; cases z) (by decide))), ?_⟩
  exact read_begun hS hl hk
theorem ok_law {F__law_parts : FT} {F_Program_init : FTI} {F_Program_eq : FT} {F__law_kinds_right : FT}  {f : Addr} {fd : FuncData} (G : Fun K "law" "law" s_law f fd) (T : Txt P K mg) (C__law_parts : Cal P w K mg base 2 "_law_parts" ["_law_m"] F__law_parts) (I_Program_init : ICal P w K mg base 8 "Program" "Program.__init__" s_Program_init ["self", "inputs", "statements", "tells"] [(.tup [])] F_Program_init) (M_Program_eq : MCal P w K mg base 1 "Program" "__eq__" "Program.__eq__" s_Program_eq ["self", "other"] [] F_Program_eq) (C__law_kinds_right : Cal P w K mg base 11 "_law_kinds_right" ["_law_a"] F__law_kinds_right) (C__law_next : Cal P w K mg base 1 "_law_next" ["_law_m", "_law_many"] F_next)
    (hspec : ∀ ns : List Int, ns.length ≤ 63 → W_law noX F__law_parts F_Program_init F_Program_eq F__law_kinds_right lawEnds ((startT N_law [.scr ns]).set 1 (.tr .mach)) FUEL) : FnT P w K mg base 12 f fd ["_law_script"] (spLaw K) := by
  have S := sc_law
  obtain ⟨fb, fdb, Gb, hmb⟩ := T.d__law_begun
  have Bb : Binds K fdb ["_law_script"] [] := Gb.binds (fun _ _ _ _ _ _ us hl => match us, hl with | [_], _ => rfl)
  refine fnT_of G S (fun vs H Q E h => ?_) (fun cdv A outer s H0 vs Q E hgd hr h => ?_)
  · obtain ⟨a, ns, rfl, _⟩ := h
    rfl
  obtain ⟨a, ns, rfl, hS, hl, hQ⟩ := h
  have tk : Takes (cxT P w K mg base N_law "law" s_law f cdv A outer s H0 E) Xw.W := TL.takes0
  have po : Owns (cxT P w K mg base N_law "law" s_law f cdv A outer s H0 E) := passes_of rfl
  have body : QSs (cxT P w K mg base N_law "law" s_law f cdv A outer s H0 E) (defBody s_law).tail (W_law noX F__law_parts F_Program_init F_Program_eq F__law_kinds_right) :=
    (qss_cons (qs_for po rfl (qi_rng1 (by rfl) T.b_range (qa_cons (q_op op_addAll ok_addAll (q_int) (q_callB (call_min2 rfl) (ok_mm (g := fun i j => if j < i then j else i)) (by rfl) T.b_min (by decide +kernel) (qa_cons (q_callB call_len ok_len (by rfl) T.b_len (by decide +kernel) (qa_cons (q_var 0 (pv 0)) qa_nil)) (qa_cons (q_int) qa_nil)))) qa_nil)) (qg_name (i := 2) S.nd rfl (Or.inl rfl)) (qss_cons (qs_asg (q_cal tk hgd C__law_parts hr (by decide) (by rfl) (qa_cons (q_var 1 (pv 1)) qa_nil)) (qg_tup rfl (qgs_cons (qg_name (i := 3) S.nd rfl (Or.inl rfl)) (qgs_cons (qg_name (i := 4) S.nd rfl (Or.inl rfl)) qgs_nil))))
      (qss_cons (qs_set (i := 5) S.nd rfl (Or.inl rfl) (q_make tk hgd I_Program_init B_Program_init_4 hr (by decide) (by rfl) (qa_cons (q_ix ix_seq ok_ix (fun _ _ => rfl) (q_var 3 (pv 3)) (q_int)) (qa_cons (q_ix ix_seq ok_ix (fun _ _ => rfl) (q_var 3 (pv 3)) (q_int)) (qa_cons (q_ix ix_seq ok_ix (fun _ _ => rfl) (q_var 3 (pv 3)) (q_int)) qa_nil)))))
      (qss_cons (qs_if (qt_bool (qw_or (qt_not (qt_cmp (op_eqO hgd hr) (ok_eqO T.clf (eqM_cons M_Program_eq B_Program_eq_2 rfl (by decide) eqM_nil)) (nomark _) (q_var 5 (pv 5)) (q_make tk hgd I_Program_init B_Program_init_4 hr (by decide) (by rfl) (qa_cons (q_ix ix_seq ok_ix (fun _ _ => rfl) (q_var 3 (pv 3)) (q_int)) (qa_cons (q_callTy call_tuple_of ok_tupOf (by rfl) T.b_tuple (by decide +kernel) (qa_cons (q_callTy call_list_of ok_listOf (by rfl) T.b_list (by decide +kernel) (qa_cons (q_ix ix_seq ok_ix (fun _ _ => rfl) (q_var 3 (pv 3)) (q_int)) qa_nil)) qa_nil)) (qa_cons (q_ix ix_seq ok_ix (fun _ _ => rfl) (q_var 3 (pv 3)) (q_int)) qa_nil)))))) (qw_or (qt_cmp (op_eqO hgd hr) (ok_eqO T.clf (eqM_cons M_Program_eq B_Program_eq_2 rfl (by decide) eqM_nil)) (nomark _) (q_var 5 (pv 5)) (q_var 3 (pv 3))) (qw_or1 (qt_cmp (op_eqO hgd hr) (ok_eqO T.clf (eqM_cons M_Program_eq B_Program_eq_2 rfl (by decide) eqM_nil)) (nomark _) (q_var 5 (pv 5)) (q_ix ix_seq ok_ix (fun _ _ => rfl) (q_var 3 (pv 3)) (q_int))))))) (qss_one (qs_ret (q_bl))) qss_nil)
      (qss_cons (qs_for po rfl (qi_seq (q_var 4 (pv 4))) (qg_tup rfl (qgs_cons (qg_name (i := 6) S.nd rfl (Or.inl rfl)) (qgs_cons (qg_name (i := 7) S.nd rfl (Or.inl rfl)) (qgs_cons (qg_name (i := 8) S.nd rfl (Or.inl rfl)) qgs_nil)))) (qss_cons (qs_set (i := 9) S.nd rfl (Or.inl rfl) (q_make tk hgd I_Program_init B_Program_init_4 hr (by decide) (by rfl) (qa_cons (q_var 6 (pv 6)) (qa_cons (q_var 7 (pv 7)) (qa_cons (q_var 8 (pv 8)) qa_nil)))))
      (qss_one (qs_if (qt_bool (qw_or (qt_cmp (op_eqO hgd hr) (ok_eqO T.clf (eqM_cons M_Program_eq B_Program_eq_2 rfl (by decide) eqM_nil)) (nomark _) (q_var 5 (pv 5)) (q_var 9 (pv 9))) (qw_or (qt_not (qt_cmp (op_neO hgd hr) (ok_neO (eqM_cons M_Program_eq B_Program_eq_2 rfl (by decide) eqM_nil) (neM_cons T.ne_Program neM_nil)) (nomark _) (q_var 5 (pv 5)) (q_var 9 (pv 9)))) (qw_or (qt_cmp (op_eqO hgd hr) (ok_eqO T.clf (eqM_cons M_Program_eq B_Program_eq_2 rfl (by decide) eqM_nil)) (nomark _) (q_var 9 (pv 9)) (q_var 5 (pv 5))) (qw_or1 (qt_cmp (op_neO hgd hr) (ok_neO (eqM_cons M_Program_eq B_Program_eq_2 rfl (by decide) eqM_nil) (neM_cons T.ne_Program neM_nil)) (nomark _) (q_var 9 (pv 9)) (q_make tk hgd I_Program_init B_Program_init_4 hr (by decide) (by rfl) (qa_cons (q_var 6 (pv 6)) (qa_cons (q_var 7 (pv 7)) (qa_cons (q_var 8 (pv 8)) qa_nil)))))))))) (qss_one (qs_ret (q_bl))) qss_nil))))
      (qss_cons (qs_own (i := 10) S.nd rfl (Or.inl rfl) (qf_listOf (by rfl) T.b_list (by decide +kernel) (qa_cons (q_ix ix_seq ok_ix (fun _ _ => rfl) (q_var 3 (pv 3)) (q_int)) qa_nil)))
      (qss_cons (qs_set (i := 11) S.nd rfl (Or.inl rfl) (q_make tk hgd I_Program_init B_Program_init_4 hr (by decide) (by rfl) (qa_cons (q_ix ix_seq ok_ix (fun _ _ => rfl) (q_var 3 (pv 3)) (q_int)) (qa_cons (q_tupOwn (pv 10) (by rfl) T.b_tuple) (qa_cons (q_ix ix_seq ok_ix (fun _ _ => rfl) (q_var 3 (pv 3)) (q_int)) qa_nil)))))
      (qss_cons (qs_asg (q_tup (qa_cons (q_str) (qa_cons (q_str) (qa_cons (q_ix ix_seq ok_ix (fun _ _ => rfl) (q_ix ix_seq ok_ix (fun _ _ => rfl) (q_var 3 (pv 3)) (q_int)) (q_int)) qa_nil)))) (qg_stL 10 (pv 10) (letI : Xw := Xw.no; (q_int))))
      (qss_frz (qss_cons (qs_if (qt_bool (qw_or (qt_cmp (op_neO hgd hr) (ok_neO (eqM_cons M_Program_eq B_Program_eq_2 rfl (by decide) eqM_nil) (neM_cons T.ne_Program neM_nil)) (nomark _) (q_var 11 (pv 11)) (q_var 5 (pv 5))) (qw_or1 (qt_cmp (op_neX hr.units) ok_ne (nomark _) (q_attr T.clf (q_var 11 (pv 11))) (q_ix ix_seq ok_ix (fun _ _ => rfl) (q_var 3 (pv 3)) (q_int)))))) (qss_one (qs_ret (q_bl))) qss_nil)
      (qss_one (qs_if (qt_not (qt_val (q_cal tk hgd C__law_kinds_right hr (by decide) (by rfl) (qa_cons (q_cal tk hgd C__law_next hr (by decide) (by rfl) (qa_cons (q_var 1 (pv 1)) (qa_cons (q_int) qa_nil))) qa_nil)))) (qss_one (qs_ret (q_bl))) qss_nil))))))))))))
      (qss_one (qs_ret (q_and (q_not (q_cmp (op_eqO hgd hr) (ok_eqO T.clf (eqM_cons M_Program_eq B_Program_eq_2 rfl (by decide) eqM_nil)) (nomark _) (q_make tk hgd I_Program_init B_Program_init_3 hr (by decide) (by rfl) (qa_cons (q_tup qa_nil) (qa_cons (q_tup qa_nil) qa_nil))) (q_make tk hgd I_Program_init B_Program_init_3 hr (by decide) (by rfl) (qa_cons (q_tup (qa_cons (q_int) qa_nil)) (qa_cons (q_tup qa_nil) qa_nil))))) (q_one (q_cmp (op_eqO hgd hr) (ok_eqO T.clf (eqM_cons M_Program_eq B_Program_eq_2 rfl (by decide) eqM_nil)) (nomark _) (q_make tk hgd I_Program_init B_Program_init_3 hr (by decide) (by rfl) (qa_cons (q_tup qa_nil) (qa_cons (q_tup qa_nil) qa_nil))) (q_make tk hgd I_Program_init B_Program_init_4 hr (by decide) (by rfl) (qa_cons (q_tup qa_nil) (qa_cons (q_tup qa_nil) (qa_cons (q_tup qa_nil) qa_nil))))))))))
  refine ⟨_, pss_cons (ps_asg (pe_callT (ok_begun Gb T.b_list) hgd (hr.mono (by decide)) (by rfl) hmb Gb.kp Bb (pa_cons (pv 0) pa_nil)) (pg_name (i := 1) S.nd rfl (Or.inl rfl))) body, ?_⟩
  exact read_law hS hl hQ (hspec ns hl) rfl
end
theorem all_mk {l : PySem.W.OpenLaw} {w : World} {K : PySem.W.Frag} {h : Heap} {mg : Str → Option Value} {fa : Addr} (X : K.In h) (G : h.Ns mainGlobals mg) (hfa : mg "law" = some (.ref fa))
    (top : (l.prog.main.scope.names.lookup ("super" : Str)).isSome = false)
    {f0 : Addr} {od0 an0 : Option Addr} {sl0 : Array (Option Value)} {oc0 kV0 dc0 pm0 cd0 ct0 : Value}
    {f1 : Addr} {od1 an1 : Option Addr} {sl1 : Array (Option Value)} {oc1 kV1 dc1 pm1 cd1 ct1 : Value}
    {f2 : Addr} {od2 an2 : Option Addr} {sl2 : Array (Option Value)} {oc2 kV2 dc2 pm2 cd2 ct2 : Value}
    {f3 : Addr} {od3 an3 : Option Addr} {sl3 : Array (Option Value)} {oc3 kV3 dc3 pm3 cd3 ct3 : Value}
    {f4 : Addr} {od4 an4 : Option Addr} {sl4 : Array (Option Value)} {oc4 kV4 dc4 pm4 cd4 ct4 : Value}
    {f5 : Addr} {od5 an5 : Option Addr} {sl5 : Array (Option Value)} {oc5 kV5 dc5 pm5 cd5 ct5 : Value}
    {f6 : Addr} {od6 an6 : Option Addr} {sl6 : Array (Option Value)} {oc6 kV6 dc6 pm6 cd6 ct6 : Value}
    {f7 : Addr} {od7 an7 : Option Addr} {sl7 : Array (Option Value)} {oc7 kV7 dc7 pm7 cd7 ct7 : Value}
    {f8 : Addr} {od8 an8 : Option Addr} {sl8 : Array (Option Value)} {oc8 kV8 dc8 pm8 cd8 ct8 : Value}
    {f9 : Addr} {od9 an9 : Option Addr} {sl9 : Array (Option Value)} {oc9 kV9 dc9 pm9 cd9 ct9 : Value}
    {f10 : Addr} {od10 an10 : Option Addr} {sl10 : Array (Option Value)} {oc10 kV10 dc10 pm10 cd10 ct10 : Value}
    {f11 : Addr} {od11 an11 : Option Addr} {sl11 : Array (Option Value)} {oc11 kV11 dc11 pm11 cd11 ct11 : Value}
    {f12 : Addr} {od12 an12 : Option Addr} {sl12 : Array (Option Value)} {oc12 kV12 dc12 pm12 cd12 ct12 : Value}
    {f13 : Addr} {od13 an13 : Option Addr} {sl13 : Array (Option Value)} {oc13 kV13 dc13 pm13 cd13 ct13 : Value}
    {f14 : Addr} {od14 an14 : Option Addr} {sl14 : Array (Option Value)} {oc14 kV14 dc14 pm14 cd14 ct14 : Value}
    {f15 : Addr} {od15 an15 : Option Addr} {sl15 : Array (Option Value)} {oc15 kV15 dc15 pm15 cd15 ct15 : Value}
    {f16 : Addr} {od16 an16 : Option Addr} {sl16 : Array (Option Value)} {oc16 kV16 dc16 pm16 cd16 ct16 : Value}
    {f17 : Addr} {od17 an17 : Option Addr} {sl17 : Array (Option Value)} {oc17 kV17 dc17 pm17 cd17 ct17 : Value}
    {f18 : Addr} {od18 an18 : Option Addr} {sl18 : Array (Option Value)} {oc18 kV18 dc18 pm18 cd18 ct18 : Value}
    {f19 : Addr} {od19 an19 : Option Addr} {sl19 : Array (Option Value)} {oc19 kV19 dc19 pm19 cd19 ct19 : Value}
    {f20 : Addr} {od20 an20 : Option Addr} {sl20 : Array (Option Value)} {oc20 kV20 dc20 pm20 cd20 ct20 : Value}
    {f21 : Addr} {od21 an21 : Option Addr} {sl21 : Array (Option Value)} {oc21 kV21 dc21 pm21 cd21 ct21 : Value}
    {tk_DIGITS : _}
    {tk_MAX_ALIVE : _}
    {tk_MAX_BITS : _}
    {tk_MAX_INPUTS : _}
    {tk_MAX_LINE : _}
    {tk_MAX_STATEMENTS : _}
    {tk_MAX_TELLS : _}
    {tk_NOTHING : _}
    {ad_ONE_LINE : Addr} {odg_ONE_LINE : Option Addr} {it_ONE_LINE : Array Value} {nn_ONE_LINE : Nat} {slg_ONE_LINE : Array (Option Value)}
    {ad_TWO_LINES : Addr} {odg_TWO_LINES : Option Addr} {it_TWO_LINES : Array Value} {nn_TWO_LINES : Nat} {slg_TWO_LINES : Array (Option Value)}
    {A_Invalid : Addr}
    {cd_Invalid : ClassData}
    {A_BadOperator : Addr}
    {cd_BadOperator : ClassData}
    {A_BadProgram : Addr}
    {cd_BadProgram : ClassData}
    {A_Program : Addr}
    {oC_BadOperator : Obj} {fI_BadOperator cda_BadOperator cci_BadOperator : Addr} {xod_BadOperator xan_BadOperator xcdd_BadOperator xcld_BadOperator : Option Addr} {xkV_BadOperator xdc_BadOperator xpm_BadOperator xct_BadOperator xccl_BadOperator xcl_BadOperator : Value} {xosl_BadOperator xccs_BadOperator xcsl_BadOperator : Array (Option Value)} {xvs_BadOperator : Array Value} {file_BadOperator : Str} {tf_BadOperator : Tok}
    {oC_BadProgram : Obj} {fI_BadProgram cda_BadProgram cci_BadProgram : Addr} {xod_BadProgram xan_BadProgram xcdd_BadProgram xcld_BadProgram : Option Addr} {xkV_BadProgram xdc_BadProgram xpm_BadProgram xct_BadProgram xccl_BadProgram xcl_BadProgram : Value} {xosl_BadProgram xccs_BadProgram xcsl_BadProgram : Array (Option Value)} {xvs_BadProgram : Array Value} {file_BadProgram : Str} {tf_BadProgram : Tok}
    {F_Program_init : Addr} {od_Program_init an_Program_init : Option Addr} {sl_Program_init : Array (Option Value)} {oc_Program_init kV_Program_init dc_Program_init pm_Program_init cda_Program_init ct_Program_init : Value}
    {D_Program_init : Addr} {dod_Program_init : Option Addr} {dit_Program_init : Array Value} {dn_Program_init : Nat} {dsl_Program_init : Array (Option Value)}
    {E0_Program_init : Addr} {eo0_Program_init : Option Addr} {ei0_Program_init : Array Value} {en0_Program_init : Nat} {es0_Program_init : Array (Option Value)}
    {F_Program_eq : Addr} {od_Program_eq an_Program_eq : Option Addr} {sl_Program_eq : Array (Option Value)} {oc_Program_eq kV_Program_eq dc_Program_eq pm_Program_eq cda_Program_eq ct_Program_eq : Value}
    {neC_Program neN_Program : Obj} {nsA_Program : Addr}
    (a0 : PySem.W.nsIn K mainGlobals "is_number" = some (some (.ref f0)))
    (l0 : K.lookup f0 = some ⟨oc0, od0, .func (PySem.W.fnOf "is_number" "is_number" (defArgs s_is_number) (defBody s_is_number) (defScope s_is_number) .none kV0 dc0 pm0 an0 cd0 ct0), sl0⟩)
    (c0 : PySem.W.codeIn K cd0 "is_number" = true)
    (k0 : PySem.W.keepIn K (.ref f0) = true)
    (a1 : PySem.W.nsIn K mainGlobals "is_bit" = some (some (.ref f1)))
    (l1 : K.lookup f1 = some ⟨oc1, od1, .func (PySem.W.fnOf "is_bit" "is_bit" (defArgs s_is_bit) (defBody s_is_bit) (defScope s_is_bit) .none kV1 dc1 pm1 an1 cd1 ct1), sl1⟩)
    (c1 : PySem.W.codeIn K cd1 "is_bit" = true)
    (k1 : PySem.W.keepIn K (.ref f1) = true)
    (a2 : PySem.W.nsIn K mainGlobals "is_ascending" = some (some (.ref f2)))
    (l2 : K.lookup f2 = some ⟨oc2, od2, .func (PySem.W.fnOf "is_ascending" "is_ascending" (defArgs s_is_ascending) (defBody s_is_ascending) (defScope s_is_ascending) .none kV2 dc2 pm2 an2 cd2 ct2), sl2⟩)
    (c2 : PySem.W.codeIn K cd2 "is_ascending" = true)
    (k2 : PySem.W.keepIn K (.ref f2) = true)
    (a3 : PySem.W.nsIn K mainGlobals "is_parity" = some (some (.ref f3)))
    (l3 : K.lookup f3 = some ⟨oc3, od3, .func (PySem.W.fnOf "is_parity" "is_parity" (defArgs s_is_parity) (defBody s_is_parity) (defScope s_is_parity) .none kV3 dc3 pm3 an3 cd3 ct3), sl3⟩)
    (c3 : PySem.W.codeIn K cd3 "is_parity" = true)
    (k3 : PySem.W.keepIn K (.ref f3) = true)
    (a4 : PySem.W.nsIn K mainGlobals "is_line" = some (some (.ref f4)))
    (l4 : K.lookup f4 = some ⟨oc4, od4, .func (PySem.W.fnOf "is_line" "is_line" (defArgs s_is_line) (defBody s_is_line) (defScope s_is_line) .none kV4 dc4 pm4 an4 cd4 ct4), sl4⟩)
    (c4 : PySem.W.codeIn K cd4 "is_line" = true)
    (k4 : PySem.W.keepIn K (.ref f4) = true)
    (a5 : PySem.W.nsIn K mainGlobals "are_lines" = some (some (.ref f5)))
    (l5 : K.lookup f5 = some ⟨oc5, od5, .func (PySem.W.fnOf "are_lines" "are_lines" (defArgs s_are_lines) (defBody s_are_lines) (defScope s_are_lines) .none kV5 dc5 pm5 an5 cd5 ct5), sl5⟩)
    (c5 : PySem.W.codeIn K cd5 "are_lines" = true)
    (k5 : PySem.W.keepIn K (.ref f5) = true)
    (a6 : PySem.W.nsIn K mainGlobals "is_factor" = some (some (.ref f6)))
    (l6 : K.lookup f6 = some ⟨oc6, od6, .func (PySem.W.fnOf "is_factor" "is_factor" (defArgs s_is_factor) (defBody s_is_factor) (defScope s_is_factor) .none kV6 dc6 pm6 an6 cd6 ct6), sl6⟩)
    (c6 : PySem.W.codeIn K cd6 "is_factor" = true)
    (k6 : PySem.W.keepIn K (.ref f6) = true)
    (a7 : PySem.W.nsIn K mainGlobals "is_word" = some (some (.ref f7)))
    (l7 : K.lookup f7 = some ⟨oc7, od7, .func (PySem.W.fnOf "is_word" "is_word" (defArgs s_is_word) (defBody s_is_word) (defScope s_is_word) .none kV7 dc7 pm7 an7 cd7 ct7), sl7⟩)
    (c7 : PySem.W.codeIn K cd7 "is_word" = true)
    (k7 : PySem.W.keepIn K (.ref f7) = true)
    (a8 : PySem.W.nsIn K mainGlobals "is_operator" = some (some (.ref f8)))
    (l8 : K.lookup f8 = some ⟨oc8, od8, .func (PySem.W.fnOf "is_operator" "is_operator" (defArgs s_is_operator) (defBody s_is_operator) (defScope s_is_operator) .none kV8 dc8 pm8 an8 cd8 ct8), sl8⟩)
    (c8 : PySem.W.codeIn K cd8 "is_operator" = true)
    (k8 : PySem.W.keepIn K (.ref f8) = true)
    (a9 : PySem.W.nsIn K mainGlobals "need_operator" = some (some (.ref f9)))
    (l9 : K.lookup f9 = some ⟨oc9, od9, .func (PySem.W.fnOf "need_operator" "need_operator" (defArgs s_need_operator) (defBody s_need_operator) (defScope s_need_operator) .none kV9 dc9 pm9 an9 cd9 ct9), sl9⟩)
    (c9 : PySem.W.codeIn K cd9 "need_operator" = true)
    (k9 : PySem.W.keepIn K (.ref f9) = true)
    (a10 : PySem.W.nsIn K mainGlobals "word_in" = some (some (.ref f10)))
    (l10 : K.lookup f10 = some ⟨oc10, od10, .func (PySem.W.fnOf "word_in" "word_in" (defArgs s_word_in) (defBody s_word_in) (defScope s_word_in) .none kV10 dc10 pm10 an10 cd10 ct10), sl10⟩)
    (c10 : PySem.W.codeIn K cd10 "word_in" = true)
    (k10 : PySem.W.keepIn K (.ref f10) = true)
    (a11 : PySem.W.nsIn K mainGlobals "lines_of" = some (some (.ref f11)))
    (l11 : K.lookup f11 = some ⟨oc11, od11, .func (PySem.W.fnOf "lines_of" "lines_of" (defArgs s_lines_of) (defBody s_lines_of) (defScope s_lines_of) .none kV11 dc11 pm11 an11 cd11 ct11), sl11⟩)
    (c11 : PySem.W.codeIn K cd11 "lines_of" = true)
    (k11 : PySem.W.keepIn K (.ref f11) = true)
    (a12 : PySem.W.nsIn K mainGlobals "is_gate" = some (some (.ref f12)))
    (l12 : K.lookup f12 = some ⟨oc12, od12, .func (PySem.W.fnOf "is_gate" "is_gate" (defArgs s_is_gate) (defBody s_is_gate) (defScope s_is_gate) .none kV12 dc12 pm12 an12 cd12 ct12), sl12⟩)
    (c12 : PySem.W.codeIn K cd12 "is_gate" = true)
    (k12 : PySem.W.keepIn K (.ref f12) = true)
    (a13 : PySem.W.nsIn K mainGlobals "is_measurement" = some (some (.ref f13)))
    (l13 : K.lookup f13 = some ⟨oc13, od13, .func (PySem.W.fnOf "is_measurement" "is_measurement" (defArgs s_is_measurement) (defBody s_is_measurement) (defScope s_is_measurement) .none kV13 dc13 pm13 an13 cd13 ct13), sl13⟩)
    (c13 : PySem.W.codeIn K cd13 "is_measurement" = true)
    (k13 : PySem.W.keepIn K (.ref f13) = true)
    (a14 : PySem.W.nsIn K mainGlobals "acts_on" = some (some (.ref f14)))
    (l14 : K.lookup f14 = some ⟨oc14, od14, .func (PySem.W.fnOf "acts_on" "acts_on" (defArgs s_acts_on) (defBody s_acts_on) (defScope s_acts_on) .none kV14 dc14 pm14 an14 cd14 ct14), sl14⟩)
    (c14 : PySem.W.codeIn K cd14 "acts_on" = true)
    (k14 : PySem.W.keepIn K (.ref f14) = true)
    (a15 : PySem.W.nsIn K mainGlobals "alive_behind" = some (some (.ref f15)))
    (l15 : K.lookup f15 = some ⟨oc15, od15, .func (PySem.W.fnOf "alive_behind" "alive_behind" (defArgs s_alive_behind) (defBody s_alive_behind) (defScope s_alive_behind) .none kV15 dc15 pm15 an15 cd15 ct15), sl15⟩)
    (c15 : PySem.W.codeIn K cd15 "alive_behind" = true)
    (k15 : PySem.W.keepIn K (.ref f15) = true)
    (a16 : PySem.W.nsIn K mainGlobals "_law_begun" = some (some (.ref f16)))
    (l16 : K.lookup f16 = some ⟨oc16, od16, .func (PySem.W.fnOf "_law_begun" "_law_begun" (defArgs s__law_begun) (defBody s__law_begun) (defScope s__law_begun) .none kV16 dc16 pm16 an16 cd16 ct16), sl16⟩)
    (c16 : PySem.W.codeIn K cd16 "_law_begun" = true)
    (k16 : PySem.W.keepIn K (.ref f16) = true)
    (a17 : PySem.W.nsIn K mainGlobals "_law_next" = some (some (.ref f17)))
    (l17 : K.lookup f17 = some ⟨oc17, od17, .func (PySem.W.fnOf "_law_next" "_law_next" (defArgs s__law_next) (defBody s__law_next) (defScope s__law_next) .none kV17 dc17 pm17 an17 cd17 ct17), sl17⟩)
    (c17 : PySem.W.codeIn K cd17 "_law_next" = true)
    (k17 : PySem.W.keepIn K (.ref f17) = true)
    (a18 : PySem.W.nsIn K mainGlobals "_law_parts" = some (some (.ref f18)))
    (l18 : K.lookup f18 = some ⟨oc18, od18, .func (PySem.W.fnOf "_law_parts" "_law_parts" (defArgs s__law_parts) (defBody s__law_parts) (defScope s__law_parts) .none kV18 dc18 pm18 an18 cd18 ct18), sl18⟩)
    (c18 : PySem.W.codeIn K cd18 "_law_parts" = true)
    (k18 : PySem.W.keepIn K (.ref f18) = true)
    (a19 : PySem.W.nsIn K mainGlobals "_law_is_refused" = some (some (.ref f19)))
    (l19 : K.lookup f19 = some ⟨oc19, od19, .func (PySem.W.fnOf "_law_is_refused" "_law_is_refused" (defArgs s__law_is_refused) (defBody s__law_is_refused) (defScope s__law_is_refused) .none kV19 dc19 pm19 an19 cd19 ct19), sl19⟩)
    (c19 : PySem.W.codeIn K cd19 "_law_is_refused" = true)
    (k19 : PySem.W.keepIn K (.ref f19) = true)
    (a20 : PySem.W.nsIn K mainGlobals "_law_kinds_right" = some (some (.ref f20)))
    (l20 : K.lookup f20 = some ⟨oc20, od20, .func (PySem.W.fnOf "_law_kinds_right" "_law_kinds_right" (defArgs s__law_kinds_right) (defBody s__law_kinds_right) (defScope s__law_kinds_right) .none kV20 dc20 pm20 an20 cd20 ct20), sl20⟩)
    (c20 : PySem.W.codeIn K cd20 "_law_kinds_right" = true)
    (k20 : PySem.W.keepIn K (.ref f20) = true)
    (a21 : PySem.W.nsIn K mainGlobals "law" = some (some (.ref f21)))
    (l21 : K.lookup f21 = some ⟨oc21, od21, .func (PySem.W.fnOf "law" "law" (defArgs s_law) (defBody s_law) (defScope s_law) .none kV21 dc21 pm21 an21 cd21 ct21), sl21⟩)
    (c21 : PySem.W.codeIn K cd21 "law" = true)
    (k21 : PySem.W.keepIn K (.ref f21) = true)
    (b_all : PySem.W.nsIn K mainGlobals "all" = some none)
    (b_bool : PySem.W.nsIn K mainGlobals "bool" = some none)
    (b_enumerate : PySem.W.nsIn K mainGlobals "enumerate" = some none)
    (b_int : PySem.W.nsIn K mainGlobals "int" = some none)
    (b_isinstance : PySem.W.nsIn K mainGlobals "isinstance" = some none)
    (b_len : PySem.W.nsIn K mainGlobals "len" = some none)
    (b_list : PySem.W.nsIn K mainGlobals "list" = some none)
    (b_min : PySem.W.nsIn K mainGlobals "min" = some none)
    (b_range : PySem.W.nsIn K mainGlobals "range" = some none)
    (b_sorted : PySem.W.nsIn K mainGlobals "sorted" = some none)
    (b_str : PySem.W.nsIn K mainGlobals "str" = some none)
    (b_tuple : PySem.W.nsIn K mainGlobals "tuple" = some none)
    (g_DIGITS : PySem.W.nsIn K mainGlobals "DIGITS" = some (some (.str "0123456789" tk_DIGITS)))
    (g_MAX_ALIVE : PySem.W.nsIn K mainGlobals "MAX_ALIVE" = some (some (.int 6 tk_MAX_ALIVE)))
    (g_MAX_BITS : PySem.W.nsIn K mainGlobals "MAX_BITS" = some (some (.int 10 tk_MAX_BITS)))
    (g_MAX_INPUTS : PySem.W.nsIn K mainGlobals "MAX_INPUTS" = some (some (.int 6 tk_MAX_INPUTS)))
    (g_MAX_LINE : PySem.W.nsIn K mainGlobals "MAX_LINE" = some (some (.int 9 tk_MAX_LINE)))
    (g_MAX_STATEMENTS : PySem.W.nsIn K mainGlobals "MAX_STATEMENTS" = some (some (.int 40 tk_MAX_STATEMENTS)))
    (g_MAX_TELLS : PySem.W.nsIn K mainGlobals "MAX_TELLS" = some (some (.int 8 tk_MAX_TELLS)))
    (g_NOTHING : PySem.W.nsIn K mainGlobals "NOTHING" = some (some (.str "I" tk_NOTHING)))
    (g_ONE_LINE : PySem.W.nsIn K mainGlobals "ONE_LINE" = some (some (.ref ad_ONE_LINE)))
    (h_ONE_LINE : K.lookup ad_ONE_LINE = some ⟨.type "tuple", odg_ONE_LINE, .seq it_ONE_LINE nn_ONE_LINE, slg_ONE_LINE⟩)
    (v_ONE_LINE : absVs it_ONE_LINE.toList = some [toV (.str "h"), toV (.str "s"), toV (.str "sdg"), toV (.str "x"), toV (.str "y"), toV (.str "z")])
    (g_TWO_LINES : PySem.W.nsIn K mainGlobals "TWO_LINES" = some (some (.ref ad_TWO_LINES)))
    (h_TWO_LINES : K.lookup ad_TWO_LINES = some ⟨.type "tuple", odg_TWO_LINES, .seq it_TWO_LINES nn_TWO_LINES, slg_TWO_LINES⟩)
    (v_TWO_LINES : absVs it_TWO_LINES.toList = some [toV (.str "cx"), toV (.str "cz"), toV (.str "swap")])
    (a_Invalid : PySem.W.nsIn K mainGlobals "Invalid" = some (some (.ref A_Invalid)))
    (ga_Invalid : PySem.W.findIn K (.ref A_Invalid) "__getattribute__" = some (some (.builtin "BaseException.__getattribute__")))
    (gg_Invalid : PySem.W.findIn K (.ref A_Invalid) "__getattr__" = some none)
    (eb_Invalid : PySem.W.subIn K (.ref A_Invalid) (.type "BaseException") = some true)
    (hd_Invalid : PySem.W.hasDictIn K A_Invalid = true)
    (cc_Invalid : PySem.W.clsIn K A_Invalid = some cd_Invalid)
    (ha_Invalid : PySem.W.findIn K (.ref A_Invalid) "__class__" = some (some (.builtin "object.__class__")))
    (hm_Invalid : PySem.W.mroIn K A_Invalid (.type "object") = some true)
    (ty_Invalid : PySem.W.typeIn K (.ref A_Invalid) = some (.type "type"))
    (ow_Invalid : PySem.W.mroIn K A_Invalid (.ref A_Invalid) = some true)
    (kp_Invalid : PySem.W.keepIn K (.ref A_Invalid) = true)
    (a_BadOperator : PySem.W.nsIn K mainGlobals "BadOperator" = some (some (.ref A_BadOperator)))
    (ga_BadOperator : PySem.W.findIn K (.ref A_BadOperator) "__getattribute__" = some (some (.builtin "BaseException.__getattribute__")))
    (gg_BadOperator : PySem.W.findIn K (.ref A_BadOperator) "__getattr__" = some none)
    (eb_BadOperator : PySem.W.subIn K (.ref A_BadOperator) (.type "BaseException") = some true)
    (hd_BadOperator : PySem.W.hasDictIn K A_BadOperator = true)
    (cc_BadOperator : PySem.W.clsIn K A_BadOperator = some cd_BadOperator)
    (ha_BadOperator : PySem.W.findIn K (.ref A_BadOperator) "__class__" = some (some (.builtin "object.__class__")))
    (hm_BadOperator : PySem.W.mroIn K A_BadOperator (.type "object") = some true)
    (ty_BadOperator : PySem.W.typeIn K (.ref A_BadOperator) = some (.type "type"))
    (ow_BadOperator : PySem.W.mroIn K A_BadOperator (.ref A_BadOperator) = some true)
    (kp_BadOperator : PySem.W.keepIn K (.ref A_BadOperator) = true)
    (nf_BadOperator_reason : PySem.W.findIn K (.ref A_BadOperator) "reason" = some none)
    (a_BadProgram : PySem.W.nsIn K mainGlobals "BadProgram" = some (some (.ref A_BadProgram)))
    (ga_BadProgram : PySem.W.findIn K (.ref A_BadProgram) "__getattribute__" = some (some (.builtin "BaseException.__getattribute__")))
    (gg_BadProgram : PySem.W.findIn K (.ref A_BadProgram) "__getattr__" = some none)
    (eb_BadProgram : PySem.W.subIn K (.ref A_BadProgram) (.type "BaseException") = some true)
    (hd_BadProgram : PySem.W.hasDictIn K A_BadProgram = true)
    (cc_BadProgram : PySem.W.clsIn K A_BadProgram = some cd_BadProgram)
    (ha_BadProgram : PySem.W.findIn K (.ref A_BadProgram) "__class__" = some (some (.builtin "object.__class__")))
    (hm_BadProgram : PySem.W.mroIn K A_BadProgram (.type "object") = some true)
    (ty_BadProgram : PySem.W.typeIn K (.ref A_BadProgram) = some (.type "type"))
    (ow_BadProgram : PySem.W.mroIn K A_BadProgram (.ref A_BadProgram) = some true)
    (kp_BadProgram : PySem.W.keepIn K (.ref A_BadProgram) = true)
    (nf_BadProgram_place : PySem.W.findIn K (.ref A_BadProgram) "place" = some none)
    (a_Program : PySem.W.nsIn K mainGlobals "Program" = some (some (.ref A_Program)))
    (pg_Program : PySem.W.plainGet K A_Program Str.empty = true)
    (hd_Program : PySem.W.hasDictIn K A_Program = true)
    (po_Program : PySem.W.plainOver K A_Program = true)
    (sa_Program : PySem.W.findIn K (.ref A_Program) "__setattr__" = some (some (.builtin "object.__setattr__")))
    (ha_Program : PySem.W.findIn K (.ref A_Program) "__class__" = some (some (.builtin "object.__class__")))
    (hm_Program : PySem.W.mroIn K A_Program (.type "object") = some true)
    (ty_Program : PySem.W.typeIn K (.ref A_Program) = some (.type "type"))
    (ow_Program : PySem.W.mroIn K A_Program (.ref A_Program) = some true)
    (kp_Program : PySem.W.keepIn K (.ref A_Program) = true)
    (nf_Program_inputs : PySem.W.findIn K (.ref A_Program) "inputs" = some none)
    (nf_Program_statements : PySem.W.findIn K (.ref A_Program) "statements" = some none)
    (nf_Program_tells : PySem.W.findIn K (.ref A_Program) "tells" = some none)
    (nf_Program_outputs : PySem.W.findIn K (.ref A_Program) "outputs" = some none)
    (nf_Program_bits : PySem.W.findIn K (.ref A_Program) "bits" = some none)
    (nf_Program_rows : PySem.W.findIn K (.ref A_Program) "rows" = some none)
    (sub_Invalid_BadProgram : PySem.W.subIn K (.ref A_Invalid) (.ref A_BadProgram) = some false)
    (sub_Invalid_Program : PySem.W.subIn K (.ref A_Invalid) (.ref A_Program) = some false)
    (sub_BadOperator_BadProgram : PySem.W.subIn K (.ref A_BadOperator) (.ref A_BadProgram) = some false)
    (sub_BadOperator_Program : PySem.W.subIn K (.ref A_BadOperator) (.ref A_Program) = some false)
    (sub_BadProgram_BadProgram : PySem.W.subIn K (.ref A_BadProgram) (.ref A_BadProgram) = some true)
    (sub_BadProgram_Program : PySem.W.subIn K (.ref A_BadProgram) (.ref A_Program) = some false)
    (sub_Program_BadProgram : PySem.W.subIn K (.ref A_Program) (.ref A_BadProgram) = some false)
    (sub_Program_Program : PySem.W.subIn K (.ref A_Program) (.ref A_Program) = some true)
    (tsb_NoneType_Program : PySem.W.subIn K (.type "NoneType") (.ref A_Program) = some false)
    (tsb_int_Program : PySem.W.subIn K (.type "int") (.ref A_Program) = some false)
    (tsb_bool_Program : PySem.W.subIn K (.type "bool") (.ref A_Program) = some false)
    (tsb_str_Program : PySem.W.subIn K (.type "str") (.ref A_Program) = some false)
    (tsb_tuple_Program : PySem.W.subIn K (.type "tuple") (.ref A_Program) = some false)
    (tsb_list_Program : PySem.W.subIn K (.type "list") (.ref A_Program) = some false)
    (tsb_dict_Program : PySem.W.subIn K (.type "dict") (.ref A_Program) = some false)
    (hn : PySem.W.specialIn K (.builtin "object.__class__") "__get__" = some (some (.builtin "getset_descriptor.__get__")))
    (htk : PySem.W.takesIn K (.builtin "object.__class__") = some true)
    (opq : PySem.W.nsIn K PySem.cStatics "thirdparty.any" = some none)
    (sup : PySem.W.nsIn K mainGlobals "super" = some none)
    (xlC_BadOperator : K.lookup A_BadOperator = some oC_BadOperator)
    (xqC_BadOperator : excInitO A_BadOperator oC_BadOperator [.type "ValueError", .type "Exception", .type "BaseException", .type "object"] "ValueError.__new__" = true)
    (xqO_BadOperator : overO A_BadOperator cd_BadOperator [.type "ValueError", .type "Exception", .type "BaseException", .type "object"] = true)
    (xhD_BadOperator : cd_BadOperator.hasDict = true)
    (xqF_BadOperator : overF A_BadOperator cd_BadOperator cd_Invalid = true)
    (xiF_BadOperator : PySem.W.findIn K (.ref A_Invalid) "__init__" = some (some (.builtin "ValueError.__init__")))
    (xsB_BadOperator : PySem.W.subIn K (.ref A_BadOperator) (.type "ValueError") = some true)
    (xhi_BadOperator : PySem.W.findIn K (.ref A_BadOperator) "__init__" = some (some (.ref fI_BadOperator)))
    (xhf_BadOperator : K.lookup fI_BadOperator = some ⟨.type "function", xod_BadOperator, .func (PySem.W.ksFn "__init__" "BadOperator.__init__" (defArgs s_BadOperator_init) (defBody s_BadOperator_init) (defScope s_BadOperator_init) .none xkV_BadOperator xdc_BadOperator xpm_BadOperator xan_BadOperator (.ref cda_BadOperator) xct_BadOperator cci_BadOperator), xosl_BadOperator⟩)
    (xcd_BadOperator : PySem.W.codeIn K (.ref cda_BadOperator) "BadOperator.__init__" = true)
    (xca_BadOperator : K.lookup cda_BadOperator = some ⟨xccl_BadOperator, xcdd_BadOperator, .fields xvs_BadOperator, xccs_BadOperator⟩)
    (xvs2_BadOperator : xvs_BadOperator[2]? = some (.str file_BadOperator tf_BadOperator))
    (xfi_BadOperator : ((l.prog.main.file : Str) == file_BadOperator) = true)
    (xcc_BadOperator : K.lookup cci_BadOperator = some ⟨xcl_BadOperator, xcld_BadOperator, .cell (some (.ref A_BadOperator)), xcsl_BadOperator⟩)
    (xsa_BadOperator : PySem.W.findIn K (.ref A_BadOperator) "__setattr__" = some (some (.builtin "object.__setattr__")))
    (xtk_BadOperator : PySem.W.takerIn K A_BadOperator "reason" = some none)
    (xlC_BadProgram : K.lookup A_BadProgram = some oC_BadProgram)
    (xqC_BadProgram : excInitO A_BadProgram oC_BadProgram [.type "ValueError", .type "Exception", .type "BaseException", .type "object"] "ValueError.__new__" = true)
    (xqO_BadProgram : overO A_BadProgram cd_BadProgram [.type "ValueError", .type "Exception", .type "BaseException", .type "object"] = true)
    (xhD_BadProgram : cd_BadProgram.hasDict = true)
    (xqF_BadProgram : overF A_BadProgram cd_BadProgram cd_Invalid = true)
    (xiF_BadProgram : PySem.W.findIn K (.ref A_Invalid) "__init__" = some (some (.builtin "ValueError.__init__")))
    (xsB_BadProgram : PySem.W.subIn K (.ref A_BadProgram) (.type "ValueError") = some true)
    (xhi_BadProgram : PySem.W.findIn K (.ref A_BadProgram) "__init__" = some (some (.ref fI_BadProgram)))
    (xhf_BadProgram : K.lookup fI_BadProgram = some ⟨.type "function", xod_BadProgram, .func (PySem.W.ksFn "__init__" "BadProgram.__init__" (defArgs s_BadProgram_init) (defBody s_BadProgram_init) (defScope s_BadProgram_init) .none xkV_BadProgram xdc_BadProgram xpm_BadProgram xan_BadProgram (.ref cda_BadProgram) xct_BadProgram cci_BadProgram), xosl_BadProgram⟩)
    (xcd_BadProgram : PySem.W.codeIn K (.ref cda_BadProgram) "BadProgram.__init__" = true)
    (xca_BadProgram : K.lookup cda_BadProgram = some ⟨xccl_BadProgram, xcdd_BadProgram, .fields xvs_BadProgram, xccs_BadProgram⟩)
    (xvs2_BadProgram : xvs_BadProgram[2]? = some (.str file_BadProgram tf_BadProgram))
    (xfi_BadProgram : ((l.prog.main.file : Str) == file_BadProgram) = true)
    (xcc_BadProgram : K.lookup cci_BadProgram = some ⟨xcl_BadProgram, xcld_BadProgram, .cell (some (.ref A_BadProgram)), xcsl_BadProgram⟩)
    (xsa_BadProgram : PySem.W.findIn K (.ref A_BadProgram) "__setattr__" = some (some (.builtin "object.__setattr__")))
    (xtk_BadProgram : PySem.W.takerIn K A_BadProgram "place" = some none)
    (f_Program_init : PySem.W.findIn K (.ref A_Program) "__init__" = some (some (.ref F_Program_init)))
    (fn_Program_init : PySem.W.isFn K (.ref F_Program_init) = true)
    (mk_Program_init : PySem.W.makesIn K A_Program = true)
    (l_Program_init : K.lookup F_Program_init = some ⟨oc_Program_init, od_Program_init, .func (PySem.W.fnOf "__init__" "Program.__init__" (defArgs s_Program_init) (defBody s_Program_init) (defScope s_Program_init) (.ref D_Program_init) kV_Program_init dc_Program_init pm_Program_init an_Program_init cda_Program_init ct_Program_init), sl_Program_init⟩)
    (c_Program_init : PySem.W.codeIn K cda_Program_init "Program.__init__" = true)
    (k_Program_init : PySem.W.keepIn K (.ref F_Program_init) = true)
    (d_Program_init : K.lookup D_Program_init = some ⟨.type "tuple", dod_Program_init, .seq dit_Program_init dn_Program_init, dsl_Program_init⟩)
    (dv_Program_init : dit_Program_init.toList = [.ref E0_Program_init])
    (d0_Program_init : K.lookup E0_Program_init = some ⟨.type "tuple", eo0_Program_init, .seq ei0_Program_init en0_Program_init, es0_Program_init⟩)
    (de0_Program_init : ei0_Program_init.toList = [])
    (f_Program_eq : PySem.W.findIn K (.ref A_Program) "__eq__" = some (some (.ref F_Program_eq)))
    (fn_Program_eq : PySem.W.isFn K (.ref F_Program_eq) = true)
    (l_Program_eq : K.lookup F_Program_eq = some ⟨oc_Program_eq, od_Program_eq, .func (PySem.W.fnOf "__eq__" "Program.__eq__" (defArgs s_Program_eq) (defBody s_Program_eq) (defScope s_Program_eq) .none kV_Program_eq dc_Program_eq pm_Program_eq an_Program_eq cda_Program_eq ct_Program_eq), sl_Program_eq⟩)
    (c_Program_eq : PySem.W.codeIn K cda_Program_eq "Program.__eq__" = true)
    (k_Program_eq : PySem.W.keepIn K (.ref F_Program_eq) = true)
    (nel_Program : K.lookup A_Program = some neC_Program)
    (nea_Program : nsOf neC_Program = nsA_Program)
    (nen_Program : K.lookup nsA_Program = some neN_Program)
    (neq_Program : neO A_Program F_Program_eq nsA_Program neC_Program neN_Program = true)
    (hok : ∀ {w : World} {base : Heap} {f : Addr} {fd : FuncData} [CN], Fun K "law" "law" s_law f fd → Txt l.prog K mg → FnT l.prog w K mg base 12 f fd ["_law_script"] (spLaw K)) :
    ∃ fd : FuncData, (∀ (s : Shared) (v : Value), BindsTo s fd ⟨[v], []⟩ [("_law_script", v)]) ∧ ∀ base : Heap, K.In base → base.Ns mainGlobals mg → FnT l.prog w K mg base 12 fa fd ["_law_script"] (spLaw K) := by
  have e := hfa.symm.trans (PySem.W.mg_of X G a21)
  cases e
  letI : CN := cnOf mg
  have at_ : ∀ {c : Str} {A : Addr}, PySem.W.nsIn K mainGlobals c = some (some (.ref A)) → CN.at_ c = some A := fun {c A} q => by
    have := PySem.W.mg_of X G q
    show (match mg c with | some (.ref a) => some a | _ => none) = _
    rw [this]
  have T : Txt l.prog K mg := ⟨PySem.W.mg_none_of X G b_all,
    PySem.W.mg_none_of X G b_bool,
    PySem.W.mg_none_of X G b_enumerate,
    PySem.W.mg_none_of X G b_int,
    PySem.W.mg_none_of X G b_isinstance,
    PySem.W.mg_none_of X G b_len,
    PySem.W.mg_none_of X G b_list,
    PySem.W.mg_none_of X G b_min,
    PySem.W.mg_none_of X G b_range,
    PySem.W.mg_none_of X G b_sorted,
    PySem.W.mg_none_of X G b_str,
    PySem.W.mg_none_of X G b_tuple,
    ⟨_, PySem.W.mg_of X G g_DIGITS⟩,
    ⟨_, PySem.W.mg_of X G g_MAX_ALIVE⟩,
    ⟨_, PySem.W.mg_of X G g_MAX_BITS⟩,
    ⟨_, PySem.W.mg_of X G g_MAX_INPUTS⟩,
    ⟨_, PySem.W.mg_of X G g_MAX_LINE⟩,
    ⟨_, PySem.W.mg_of X G g_MAX_STATEMENTS⟩,
    ⟨_, PySem.W.mg_of X G g_MAX_TELLS⟩,
    ⟨_, PySem.W.mg_of X G g_NOTHING⟩,
    glob_tup (ts := [(.str "h"), (.str "s"), (.str "sdg"), (.str "x"), (.str "y"), (.str "z")]) (PySem.W.mg_of X G g_ONE_LINE) h_ONE_LINE v_ONE_LINE rfl (by decide),
    glob_tup (ts := [(.str "cx"), (.str "cz"), (.str "swap")]) (PySem.W.mg_of X G g_TWO_LINES) h_TWO_LINES v_TWO_LINES rfl (by decide),
    ⟨_, _, fun_mk (st := s_is_number) l0 c0 k0, PySem.W.mg_of X G a0⟩,
    ⟨_, _, fun_mk (st := s_is_bit) l1 c1 k1, PySem.W.mg_of X G a1⟩,
    ⟨_, _, fun_mk (st := s_is_ascending) l2 c2 k2, PySem.W.mg_of X G a2⟩,
    ⟨_, _, fun_mk (st := s_is_parity) l3 c3 k3, PySem.W.mg_of X G a3⟩,
    ⟨_, _, fun_mk (st := s_is_line) l4 c4 k4, PySem.W.mg_of X G a4⟩,
    ⟨_, _, fun_mk (st := s_are_lines) l5 c5 k5, PySem.W.mg_of X G a5⟩,
    ⟨_, _, fun_mk (st := s_is_factor) l6 c6 k6, PySem.W.mg_of X G a6⟩,
    ⟨_, _, fun_mk (st := s_is_word) l7 c7 k7, PySem.W.mg_of X G a7⟩,
    ⟨_, _, fun_mk (st := s_is_operator) l8 c8 k8, PySem.W.mg_of X G a8⟩,
    ⟨_, _, fun_mk (st := s_need_operator) l9 c9 k9, PySem.W.mg_of X G a9⟩,
    ⟨_, _, fun_mk (st := s_word_in) l10 c10 k10, PySem.W.mg_of X G a10⟩,
    ⟨_, _, fun_mk (st := s_lines_of) l11 c11 k11, PySem.W.mg_of X G a11⟩,
    ⟨_, _, fun_mk (st := s_is_gate) l12 c12 k12, PySem.W.mg_of X G a12⟩,
    ⟨_, _, fun_mk (st := s_is_measurement) l13 c13 k13, PySem.W.mg_of X G a13⟩,
    ⟨_, _, fun_mk (st := s_acts_on) l14 c14 k14, PySem.W.mg_of X G a14⟩,
    ⟨_, _, fun_mk (st := s_alive_behind) l15 c15 k15, PySem.W.mg_of X G a15⟩,
    ⟨_, _, fun_mk (st := s__law_begun) l16 c16 k16, PySem.W.mg_of X G a16⟩,
    ⟨_, _, fun_mk (st := s__law_next) l17 c17 k17, PySem.W.mg_of X G a17⟩,
    ⟨_, _, fun_mk (st := s__law_parts) l18 c18 k18, PySem.W.mg_of X G a18⟩,
    ⟨_, _, fun_mk (st := s__law_is_refused) l19 c19 k19, PySem.W.mg_of X G a19⟩,
    ⟨_, _, fun_mk (st := s__law_kinds_right) l20 c20 k20, PySem.W.mg_of X G a20⟩,
    top,
    clF_mk (famL := famL) (fun _ => rfl) hn htk ⟨fun _ _ z => (by cases z), fun _ _ z => (by cases z), fun _ _ z => (by cases z), at_q (at_ a_Program) fun _ => ⟨⟨⟨pg_Program, hd_Program, po_Program, sa_Program⟩, ha_Program, hm_Program⟩, (AllL.mem ⟨nf_Program_inputs, nf_Program_statements, nf_Program_tells, nf_Program_outputs, nf_Program_bits, nf_Program_rows, trivial⟩)⟩, trivial⟩ ⟨at_q (at_ a_Invalid) fun _ => ⟨⟨⟨ga_Invalid, gg_Invalid, eb_Invalid, hd_Invalid⟩, (by rw [cc_Invalid]; rfl), ha_Invalid, hm_Invalid⟩, (AllL.mem trivial)⟩, at_q (at_ a_BadOperator) fun _ => ⟨⟨⟨ga_BadOperator, gg_BadOperator, eb_BadOperator, hd_BadOperator⟩, (by rw [cc_BadOperator]; rfl), ha_BadOperator, hm_BadOperator⟩, (AllL.mem ⟨nf_BadOperator_reason, trivial⟩)⟩, at_q (at_ a_BadProgram) fun _ => ⟨⟨⟨ga_BadProgram, gg_BadProgram, eb_BadProgram, hd_BadProgram⟩, (by rw [cc_BadProgram]; rfl), ha_BadProgram, hm_BadProgram⟩, (AllL.mem ⟨nf_BadProgram_place, trivial⟩)⟩, fun _ _ z => (by cases z), trivial⟩ ⟨at_q (at_ a_Invalid) ⟨at_q (at_ a_Program) (kit_ref hd_Program ty_Program ow_Program sub_Invalid_Program), trivial⟩, at_q (at_ a_BadOperator) ⟨at_q (at_ a_Program) (kit_ref hd_Program ty_Program ow_Program sub_BadOperator_Program), trivial⟩, at_q (at_ a_BadProgram) ⟨at_q (at_ a_Program) (kit_ref hd_Program ty_Program ow_Program sub_BadProgram_Program), trivial⟩, at_q (at_ a_Program) ⟨at_q (at_ a_Program) (kit_ref hd_Program ty_Program ow_Program sub_Program_Program), trivial⟩, trivial⟩ ⟨at_q (at_ a_Invalid) trivial, at_q (at_ a_BadOperator) trivial, at_q (at_ a_BadProgram) trivial, at_q (at_ a_Program) trivial, trivial⟩ ⟨at_q (at_ a_Program) ⟨kit_ref hd_Program ty_Program ow_Program tsb_NoneType_Program, kit_ref hd_Program ty_Program ow_Program tsb_int_Program, kit_ref hd_Program ty_Program ow_Program tsb_bool_Program, kit_ref hd_Program ty_Program ow_Program tsb_str_Program, kit_ref hd_Program ty_Program ow_Program tsb_tuple_Program, kit_ref hd_Program ty_Program ow_Program tsb_list_Program, kit_ref hd_Program ty_Program ow_Program tsb_dict_Program, trivial⟩, trivial⟩,
    ⟨_, PySem.W.mg_of X G a_BadProgram, at_ a_BadProgram⟩,
    ⟨_, PySem.W.mg_of X G a_Program, at_ a_Program⟩,
    ⟨_, PySem.W.mg_of X G a_BadOperator, at_ a_BadOperator, exk_mk PySem.F.excBase_ValueError PySem.W.kxs_ValueError PySem.F.store_ValueError xlC_BadOperator xqC_BadOperator cc_BadOperator xqO_BadOperator xhD_BadOperator cc_Invalid xqF_BadOperator xiF_BadOperator xsB_BadOperator xhi_BadOperator xhf_BadOperator xcd_BadOperator xca_BadOperator xvs2_BadOperator xfi_BadOperator xcc_BadOperator xsa_BadOperator xtk_BadOperator opq sup eb_BadOperator ty_BadOperator kp_BadOperator ow_BadOperator⟩,
    ⟨_, PySem.W.mg_of X G a_BadProgram, at_ a_BadProgram, exk_mk PySem.F.excBase_ValueError PySem.W.kxs_ValueError PySem.F.store_ValueError xlC_BadProgram xqC_BadProgram cc_BadProgram xqO_BadProgram xhD_BadProgram cc_Invalid xqF_BadProgram xiF_BadProgram xsB_BadProgram xhi_BadProgram xhf_BadProgram xcd_BadProgram xca_BadProgram xvs2_BadProgram xfi_BadProgram xcc_BadProgram xsa_BadProgram xtk_BadProgram opq sup eb_BadProgram ty_BadProgram kp_BadProgram ow_BadProgram⟩,
    fun C f h q => by
      cases (at_ a_Program).symm.trans h
      have q := f_Program_eq.symm.trans q
      cases q
      exact ⟨⟨_, _, _, nel_Program, nen_Program, neq_Program⟩, fn_Program_eq⟩,
    fun A0 h0 => by
      cases (at_ a_BadProgram).symm.trans h0
      exact hdv_mk (famL := famL) (fun _ => rfl) ⟨⟨_, (at_ a_Invalid), (exm_anyC ⟨eb_BadProgram, hd_BadProgram, ty_BadProgram⟩ sub_Invalid_BadProgram exm_any0)⟩, ⟨_, (at_ a_BadOperator), (exm_anyC ⟨eb_BadProgram, hd_BadProgram, ty_BadProgram⟩ sub_BadOperator_BadProgram exm_any0)⟩, ⟨_, (at_ a_BadProgram), (exm_anyC ⟨eb_BadProgram, hd_BadProgram, ty_BadProgram⟩ sub_BadProgram_BadProgram exm_any0)⟩, ⟨_, (at_ a_Program), (exm_anyC ⟨eb_BadProgram, hd_BadProgram, ty_BadProgram⟩ sub_Program_BadProgram exm_any0)⟩, trivial⟩,
    ⟨_, _, _, _, (at_ a_Program), PySem.W.mg_of X G a_Program, ⟨mk_Program_init, f_Program_init, fn_Program_init, kp_Program⟩, funm_mk (st := s_Program_init) l_Program_init c_Program_init k_Program_init (dfl_mk d_Program_init dv_Program_init (.unit d0_Program_init de0_Program_init .nil) (by intro z; cases z)).1, (dfl_mk d_Program_init dv_Program_init (.unit d0_Program_init de0_Program_init .nil) (by intro z; cases z)).2⟩,
    ⟨_, _, _, _, (at_ a_Program), (⟨⟨pg_Program, hd_Program, po_Program, sa_Program⟩, ha_Program, hm_Program⟩ : ObjC K A_Program).cl, ⟨f_Program_eq, fn_Program_eq, k_Program_eq⟩, funm_mk (st := s_Program_eq) l_Program_eq c_Program_eq k_Program_eq dfl_none.1, dfl_none.2⟩⟩
  exact ⟨_, fun s v => .of_eq rfl, fun base _ _ => hok (fun_mk (st := s_law) l21 c21 k21) T⟩
theorem walk {l : PySem.W.OpenLaw} {q : Program} {loose : List Str} {XP : (Str → Option Value) → Heap → Prop} {YP : World → Heap → Prop} {d : DefRec} {K : Params → PySem.W.Frag} (hn : l.most = some 63) (hdf : d.params.defaults = [])
    (hY : ∀ (w : World) (h : Heap), YP w h → (K w.params).In h)
    (F : ∀ (w : World) (mg : Str → Option Value) (fa : Addr) (h : Heap), (K w.params).In h → h.Ns mainGlobals mg → mg d.name = some (.ref fa) →
      ∃ fd : FuncData, (∀ (s : Shared) (u : Value), BindsTo s fd ⟨[u], []⟩ [("_law_script", u)]) ∧ ∀ base : Heap, (K w.params).In base → base.Ns mainGlobals mg → FnT l.prog w (K w.params) mg base 12 fa fd ["_law_script"] (spLaw (K w.params))) :
    PySem.W.WalkO q loose XP YP l.row.toRowW d [] (fun f vs => PySem.call f vs) :=
  walkT_of (n := 63) (k := 12) (x := "_law_script") (sp := fun w => spLaw (K w.params)) hn (by decide) hdf ⟨rfl, by decide, by decide⟩ hY F (fun _ _ a ns hl _ hS => ⟨a, ns, rfl, hS, hl, fun _ => rfl⟩)
end K13
namespace PW
open PySem L2 TL
def U_is_line (v_value : T) : D T :=
  dAndV (dN dIsi (dCons (.ok v_value) (dCons (.ok (.ty "int")) dNil))) (dAndV (dNotV (dN dIsi (dCons (.ok v_value) (dCons (.ok (.ty "bool")) dNil)))) (dChain dLe dLe (.ok (.int 0)) (.ok v_value) (.ok (.int 9))))
def U_are_lines (v_value : T) : D T :=
  dIf (dTOr (dTNot (dB (dN dIsi (dCons (.ok v_value) (dCons (.ok (.ty "tuple")) dNil))))) (dTNot (dB (dN dAll (dCons (D.bind (dSeq (.ok v_value)) fun xs1 => lcD xs1 fun x2 => lcE (d1 U_is_line (.ok x2))) dNil))))) (.ok (.bl false)) (dN dAll (dCons (D.bind (D.bind (dCons (d2 dSub (dN dLen (dCons (.ok v_value) dNil)) (.ok (.int 1))) dNil) rng1) fun xs3 => lcD xs3 fun x4 => lcE (d2 dLt (d2 dIx (.ok v_value) (.ok x4)) (d2 dIx (.ok v_value) (d2 dAdd (.ok x4) (.ok (.int 1)))))) dNil))
def U_is_factor (v_text : T) : D T :=
  dAndV (d2 dEq (dN dLen (dCons (.ok v_text) dNil)) (.ok (.int 2))) (dAndV (d2 (dInB id) (d2 dIx (.ok v_text) (.ok (.int 0))) (.ok (.str "XYZ"))) (d2 (dInB id) (d2 dIx (.ok v_text) (.ok (.int 1))) (.ok (.str "0123456789"))))
def U_is_word (v_value : T) : D T :=
  dIf (dTNot (dB (dN dIsi (dCons (.ok v_value) (dCons (.ok (.ty "str")) dNil))))) (.ok (.bl false)) (dIf (dB (d2 dEq (.ok v_value) (.ok (.str "I")))) (.ok (.bl true)) (D.bind (dMS sSplit (.ok v_value) (dCons (.ok (.str " ")) dNil)) fun v_factors1 => dIf (dTNot (dB (dN dAll (dCons (D.bind (dSeq (.ok v_factors1)) fun xs2 => lcD xs2 fun x3 => lcE (d1 U_is_factor (.ok x3))) dNil)))) (.ok (.bl false)) (dN dAll (dCons (D.bind (D.bind (dCons (d2 dSub (dN dLen (dCons (.ok v_factors1) dNil)) (.ok (.int 1))) dNil) rng1) fun xs4 => lcD xs4 fun x5 => lcE (d2 dLt (d2 dIx (d2 dIx (.ok v_factors1) (.ok x5)) (.ok (.int 1))) (d2 dIx (d2 dIx (.ok v_factors1) (d2 dAdd (.ok x5) (.ok (.int 1)))) (.ok (.int 1))))) dNil))))
def U_is_operator (v_value : T) : D T :=
  dAndV (dN dIsi (dCons (.ok v_value) (dCons (.ok (.ty "str")) dNil))) (d1 U_is_word (dIf (dB (dMS (s1B Txt.startswith) (.ok v_value) (dCons (.ok (.str "-")) dNil))) (dSl (.ok v_value) (dPart (.ok (.int 1))) dNoPart) (.ok v_value)))
def U_need_word (v_value : T) : D T :=
  dIf (dTNot (dB (d1 U_is_word (.ok v_value)))) (dRaise "BadOperator" "reason" (.ok (.str "no word"))) (.ok .non)
def U_need_operator (v_value : T) : D T :=
  dIf (dTNot (dB (d1 U_is_operator (.ok v_value)))) (dRaise "BadOperator" "reason" (.ok (.str "no operator"))) (.ok .non)
def U_sign_of (v_operator : T) : D T :=
  dIf (dB (dMS (s1B Txt.startswith) (.ok v_operator) (dCons (.ok (.str "-")) dNil))) (.ok (.int 1)) (.ok (.int 0))
def U_word_in (v_operator : T) : D T :=
  dIf (dB (dMS (s1B Txt.startswith) (.ok v_operator) (dCons (.ok (.str "-")) dNil))) (dSl (.ok v_operator) (dPart (.ok (.int 1))) dNoPart) (.ok v_operator)
def U_signed (v_sign v_word : T) : D T :=
  dIf (dB (d2 dEq (.ok v_sign) (.ok (.int 1)))) (d2 dAdd (.ok (.str "-")) (.ok v_word)) (.ok v_word)
def U_ones_in (v_mask : T) : D T :=
  dMS (s1I Txt.count) (d1 dBin (.ok v_mask)) (dCons (.ok (.str "1")) dNil)
def U_masks_of (v_word : T) : D T :=
  D.bind (D.bind (dN dTup (dCons (.ok (.int 0)) (dCons (.ok (.int 0)) dNil))) dun2) fun z1 => D.bind (D.bind (dSeq (dIf (dB (d2 dNe (.ok v_word) (.ok (.str "I")))) (dMS sSplit (.ok v_word) (dCons (.ok (.str " ")) dNil)) (dN dLst dNil))) fun xs6 => forD (fun x4 (c2 : T × T) => D.bind ((.ok x4)) fun y5 => D.bind (d2 dShl (.ok (.int 1)) (dMS sIdx (.ok (.str "0123456789")) (dCons (d2 dIx (.ok y5) (.ok (.int 1))) dNil))) fun v_digit7 => D.bind (D.bind (dIf (dB (d2 dNe (d2 dIx (.ok y5) (.ok (.int 0))) (.ok (.str "Z")))) (.ok v_digit7) (.ok (.int 0))) fun y9 => dIAdd c2.1 y9) fun v_x8 => D.bind (D.bind (dIf (dB (d2 dNe (d2 dIx (.ok y5) (.ok (.int 0))) (.ok (.str "X")))) (.ok v_digit7) (.ok (.int 0))) fun y11 => dIAdd c2.2 y11) fun v_z10 => .ok (v_x8, v_z10)) xs6 (z1.1, z1.2)) fun c12 => dN dTup (dCons (.ok c12.1) (dCons (.ok c12.2) dNil))
def U_word_from (v_masks : T) : D T :=
  D.bind (D.bind (.ok v_masks) dun2) fun z1 => D.bind (dN dLst dNil) fun v_found2 => D.bind (D.bind (D.bind (dCons (d2 dAdd (.ok (.int 9)) (.ok (.int 1))) dNil) rng1) fun xs7 => forD (fun x5 (c3 : T) => D.bind ((.ok x5)) fun y6 => D.bind (d2 dIx (.ok (.tup [(.str "I"), (.str "X"), (.str "Z"), (.str "Y")])) (d2 dAdd (d2 dAnd (d2 dShr (.ok z1.1) (.ok y6)) (.ok (.int 1))) (d2 dMul (.ok (.int 2)) (d2 dAnd (d2 dShr (.ok z1.2) (.ok y6)) (.ok (.int 1)))))) fun v_letter8 => dIf (dB (d2 dNe (.ok v_letter8) (.ok (.str "I")))) (D.bind (dApp c3 (d2 dAdd (.ok v_letter8) (dN dStr1 (dCons (.ok y6) dNil)))) fun v_found9 => .ok v_found9) (.ok c3)) xs7 v_found2) fun c10 => dIf (dB (d2 dNe (.ok c10) (dN dLst dNil))) (dMS sJoin (.ok (.str " ")) (dCons (.ok c10) dNil)) (.ok (.str "I"))
def U_product_of (v_one v_other : T) : D T :=
  D.bind (D.bind (d2 dXor (d2 dIx (.ok v_one) (.ok (.int 0))) (d2 dIx (.ok v_other) (.ok (.int 0)))) fun y2 => D.bind (d2 dXor (d2 dIx (.ok v_one) (.ok (.int 1))) (d2 dIx (.ok v_other) (.ok (.int 1)))) fun y3 => .ok (y2, y3)) fun z1 => D.bind (d2 dSub (d2 dAdd (d2 dAdd (d1 U_ones_in (d2 dAnd (d2 dIx (.ok v_one) (.ok (.int 0))) (d2 dIx (.ok v_one) (.ok (.int 1))))) (d1 U_ones_in (d2 dAnd (d2 dIx (.ok v_other) (.ok (.int 0))) (d2 dIx (.ok v_other) (.ok (.int 1)))))) (d2 dMul (.ok (.int 2)) (d1 U_ones_in (d2 dAnd (d2 dIx (.ok v_one) (.ok (.int 1))) (d2 dIx (.ok v_other) (.ok (.int 0))))))) (d1 U_ones_in (d2 dAnd (.ok z1.1) (.ok z1.2)))) fun v_power4 => dN dTup (dCons (d2 dMod (dN dIntX (dCons (.ok v_power4) dNil)) (.ok (.int 4))) (dCons (dN dTup (dCons (.ok z1.1) (dCons (.ok z1.2) dNil))) dNil))
def U_are_odd (v_one v_other : T) : D T :=
  d2 dEq (d2 dAnd (d2 dAdd (d1 U_ones_in (d2 dAnd (d2 dIx (.ok v_one) (.ok (.int 0))) (d2 dIx (.ok v_other) (.ok (.int 1))))) (d1 U_ones_in (d2 dAnd (d2 dIx (.ok v_one) (.ok (.int 1))) (d2 dIx (.ok v_other) (.ok (.int 0)))))) (.ok (.int 1))) (.ok (.int 1))
def U_lines_of (v_operator : T) : D T :=
  D.bind (D.bind (d1 U_need_operator (.ok v_operator)) fun _ => .ok ()) fun _ => D.bind (d1 U_word_in (.ok v_operator)) fun v_word1 => dIf (dB (d2 dNe (.ok v_word1) (.ok (.str "I")))) (dN dTupOf (dCons (D.bind (dSeq (dMS sSplit (.ok v_word1) (dCons (.ok (.str " ")) dNil))) fun xs2 => lcD xs2 fun x3 => lcE (dMS sIdx (.ok (.str "0123456789")) (dCons (d2 dIx (.ok x3) (.ok (.int 1))) dNil))) dNil)) (dN dTup dNil)
def U_weight_of (v_word : T) : D T :=
  D.bind (D.bind (d1 U_need_word (.ok v_word)) fun _ => .ok ()) fun _ => dN dLen (dCons (d1 U_lines_of (.ok v_word)) dNil)
def U_multiplied (v_one v_other : T) : D T :=
  D.bind (D.bind (d1 U_need_word (.ok v_one)) fun _ => .ok ()) fun _ => D.bind (D.bind (d1 U_need_word (.ok v_other)) fun _ => .ok ()) fun _ => D.bind (D.bind (d2 U_product_of (d1 U_masks_of (.ok v_one)) (d1 U_masks_of (.ok v_other))) dun2) fun z1 => dN dTup (dCons (.ok z1.1) (dCons (d1 U_word_from (.ok z1.2)) dNil))
def U_commute (v_one v_other : T) : D T :=
  D.bind (D.bind (d1 U_need_operator (.ok v_one)) fun _ => .ok ()) fun _ => D.bind (D.bind (d1 U_need_operator (.ok v_other)) fun _ => .ok ()) fun _ => dNotV (d2 U_are_odd (d1 U_masks_of (d1 U_word_in (.ok v_one))) (d1 U_masks_of (d1 U_word_in (.ok v_other))))
def U_is_gate (v_name v_lines : T) : D T :=
  dIf (dTOr (dTNot (dB (dN dIsi (dCons (.ok v_name) (dCons (.ok (.ty "str")) dNil))))) (dTOr (dTNot (dB (dN dIsi (dCons (.ok v_lines) (dCons (.ok (.ty "tuple")) dNil))))) (dTNot (dB (dN dAll (dCons (D.bind (dSeq (.ok v_lines)) fun xs1 => lcD xs1 fun x2 => lcE (d1 U_is_line (.ok x2))) dNil)))))) (.ok (.bl false)) (dIf (dB (d2 (dInB id) (.ok v_name) (.ok (.tup [(.str "h"), (.str "s"), (.str "sdg"), (.str "x"), (.str "y"), (.str "z")])))) (d2 dEq (dN dLen (dCons (.ok v_lines) dNil)) (.ok (.int 1))) (dAndV (d2 (dInB id) (.ok v_name) (.ok (.tup [(.str "cx"), (.str "cz"), (.str "swap")]))) (dAndV (d2 dEq (dN dLen (dCons (.ok v_lines) dNil)) (.ok (.int 2))) (d2 dNe (d2 dIx (.ok v_lines) (.ok (.int 0))) (d2 dIx (.ok v_lines) (.ok (.int 1)))))))
def U_with_digit (v_mask v_line v_digit : T) : D T :=
  d2 dOr (d2 dAnd (.ok v_mask) (d1 dInv (d2 dShl (.ok (.int 1)) (.ok v_line)))) (d2 dShl (.ok v_digit) (.ok v_line))
def U_carried_on_one (v_name v_x v_z : T) : D T :=
  dIf (dB (d2 dEq (.ok v_name) (.ok (.str "h")))) (dN dTup (dCons (d2 dAnd (.ok v_x) (.ok v_z)) (dCons (.ok v_z) (dCons (.ok v_x) dNil)))) (dIf (dB (d2 dEq (.ok v_name) (.ok (.str "s")))) (dN dTup (dCons (d2 dAnd (.ok v_x) (.ok v_z)) (dCons (.ok v_x) (dCons (d2 dXor (.ok v_z) (.ok v_x)) dNil)))) (dIf (dB (d2 dEq (.ok v_name) (.ok (.str "sdg")))) (dN dTup (dCons (d2 dAnd (.ok v_x) (d2 dXor (.ok v_z) (.ok (.int 1)))) (dCons (.ok v_x) (dCons (d2 dXor (.ok v_z) (.ok v_x)) dNil)))) (dN dTup (dCons (d2 dDGet (D.bind (dpCons (.ok (.str "x")) (.ok v_z) (dpCons (.ok (.str "y")) (d2 dXor (.ok v_x) (.ok v_z)) (dpCons (.ok (.str "z")) (.ok v_x) dpNil))) dispD) (.ok v_name)) (dCons (.ok v_x) (dCons (.ok v_z) dNil))))))
def U_carried_on_two (v_name v_one v_other : T) : D T :=
  dIf (dB (d2 dEq (.ok v_name) (.ok (.str "swap")))) (dN dTup (dCons (.ok (.int 0)) (dCons (.ok v_other) (dCons (.ok v_one) dNil)))) (dIf (dB (d2 dEq (.ok v_name) (.ok (.str "cx")))) (D.bind (d2 dAnd (d2 dAnd (d2 dIx (.ok v_one) (.ok (.int 0))) (d2 dIx (.ok v_other) (.ok (.int 1)))) (d2 dXor (d2 dXor (d2 dIx (.ok v_other) (.ok (.int 0))) (d2 dIx (.ok v_one) (.ok (.int 1)))) (.ok (.int 1)))) fun v_sign1 => dN dTup (dCons (.ok v_sign1) (dCons (dN dTup (dCons (d2 dIx (.ok v_one) (.ok (.int 0))) (dCons (d2 dXor (d2 dIx (.ok v_one) (.ok (.int 1))) (d2 dIx (.ok v_other) (.ok (.int 1)))) dNil))) (dCons (dN dTup (dCons (d2 dXor (d2 dIx (.ok v_other) (.ok (.int 0))) (d2 dIx (.ok v_one) (.ok (.int 0)))) (dCons (d2 dIx (.ok v_other) (.ok (.int 1))) dNil))) dNil)))) (D.bind (d2 dAnd (d2 dAnd (d2 dIx (.ok v_one) (.ok (.int 0))) (d2 dIx (.ok v_other) (.ok (.int 0)))) (d2 dXor (d2 dIx (.ok v_one) (.ok (.int 1))) (d2 dIx (.ok v_other) (.ok (.int 1))))) fun v_sign2 => dN dTup (dCons (.ok v_sign2) (dCons (dN dTup (dCons (d2 dIx (.ok v_one) (.ok (.int 0))) (dCons (d2 dXor (d2 dIx (.ok v_one) (.ok (.int 1))) (d2 dIx (.ok v_other) (.ok (.int 0)))) dNil))) (dCons (dN dTup (dCons (d2 dIx (.ok v_other) (.ok (.int 0))) (dCons (d2 dXor (d2 dIx (.ok v_other) (.ok (.int 1))) (d2 dIx (.ok v_one) (.ok (.int 0)))) dNil))) dNil)))))
def U_carried_masks (v_name v_lines v_masks : T) : D T :=
  D.bind (D.bind (.ok v_masks) dun2) fun z1 => D.bind (d2 dIx (.ok v_lines) (.ok (.int 0))) fun v_first2 => D.bind (dN dTup (dCons (d2 dAnd (d2 dShr (.ok z1.1) (.ok v_first2)) (.ok (.int 1))) (dCons (d2 dAnd (d2 dShr (.ok z1.2) (.ok v_first2)) (.ok (.int 1))) dNil))) fun v_one3 => dIf (dB (d2 dEq (dN dLen (dCons (.ok v_lines) dNil)) (.ok (.int 1)))) (D.bind (D.bind (d3 U_carried_on_one (.ok v_name) (d2 dIx (.ok v_one3) (.ok (.int 0))) (d2 dIx (.ok v_one3) (.ok (.int 1)))) dun3) fun z4 => dN dTup (dCons (.ok z4.1) (dCons (dN dTup (dCons (d3 U_with_digit (.ok z1.1) (.ok v_first2) (.ok z4.2.1)) (dCons (d3 U_with_digit (.ok z1.2) (.ok v_first2) (.ok z4.2.2)) dNil))) dNil))) (D.bind (d2 dIx (.ok v_lines) (.ok (.int 1))) fun v_last5 => D.bind (D.bind (d3 U_carried_on_two (.ok v_name) (.ok v_one3) (dN dTup (dCons (d2 dAnd (d2 dShr (.ok z1.1) (.ok v_last5)) (.ok (.int 1))) (dCons (d2 dAnd (d2 dShr (.ok z1.2) (.ok v_last5)) (.ok (.int 1))) dNil)))) dun3) fun z6 => D.bind (d3 U_with_digit (d3 U_with_digit (.ok z1.1) (.ok v_first2) (d2 dIx (.ok z6.2.1) (.ok (.int 0)))) (.ok v_last5) (d2 dIx (.ok z6.2.2) (.ok (.int 0)))) fun v_x7 => dN dTup (dCons (.ok z6.1) (dCons (dN dTup (dCons (.ok v_x7) (dCons (d3 U_with_digit (d3 U_with_digit (.ok z1.2) (.ok v_first2) (d2 dIx (.ok z6.2.1) (.ok (.int 1)))) (.ok v_last5) (d2 dIx (.ok z6.2.2) (.ok (.int 1)))) dNil))) dNil)))
def U_undone (v_name : T) : D T :=
  dGet2 (D.bind (dpCons (.ok (.str "s")) (.ok (.str "sdg")) (dpCons (.ok (.str "sdg")) (.ok (.str "s")) dpNil)) dispD) (.ok v_name) (.ok v_name)
def U_carried (v_name v_lines v_operator : T) : D T :=
  dIf (dTNot (dB (d2 U_is_gate (.ok v_name) (.ok v_lines)))) (dRaise "BadGate" "reason" (.ok (.str "no gate"))) (D.bind (D.bind (d1 U_need_operator (.ok v_operator)) fun _ => .ok ()) fun _ => D.bind (D.bind (d3 U_carried_masks (.ok v_name) (.ok v_lines) (d1 U_masks_of (d1 U_word_in (.ok v_operator)))) dun2) fun z1 => d2 U_signed (d2 dXor (.ok z1.1) (d1 U_sign_of (.ok v_operator))) (d1 U_word_from (.ok z1.2)))
end PW
namespace K13
open PySem L2 TL PW
local instance : Mach := machA
local instance : XCl := xcl
def U_is_number (v_value v_bound : T) : D T :=
  dAndV (dN dIsi (dCons (.ok v_value) (dCons (.ok (.ty "int")) dNil))) (dAndV (dNotV (dN dIsi (dCons (.ok v_value) (dCons (.ok (.ty "bool")) dNil)))) (dChain dLe dLt (.ok (.int 0)) (.ok v_value) (.ok v_bound)))
theorem r_is_number {E : XE} (v_value v_bound : T) : RF E (W_is_number E) [.tr v_value, .tr v_bound] (U_is_number v_value v_bound) := by
  unfold W_is_number U_is_number
  exact (rf_rr (rr_ret (u_and (u_n p_isi (ua_cons (u_var rfl) (ua_cons (u_c) ua_nil))) (u_and (u_not (u_n p_isi (ua_cons (u_var rfl) (ua_cons (u_c) ua_nil)))) (u_chain p_ord p_ord (u_c) (u_var rfl) (u_var rfl))))))
abbrev F_is_number : FT := ft (L2_ U_is_number)
theorem hs_is_number : ∀ ts n R RE, F_is_number ts n R RE → W_is_number RE { nx := fun _ n => R .non n, rt := R } (startT N_is_number ts) n := fun ts n R RE h => match ts, h with | [v_value, v_bound], h => rf_hs (r_is_number v_value v_bound) n R h
def U_is_bit (v_value : T) : D T :=
  d2 U_is_number (.ok v_value) (.ok (.int 2))
theorem r_is_bit {E : XE} (v_value : T) : RF E (W_is_bit E F_is_number) [.tr v_value] (U_is_bit v_value) := by
  unfold W_is_bit U_is_bit
  exact (rf_rr (rr_ret (u_call2 (u_var rfl) (u_c))))
abbrev F_is_bit : FT := ft (L1 U_is_bit)
theorem hs_is_bit : ∀ ts n R RE, F_is_bit ts n R RE → W_is_bit RE F_is_number { nx := fun _ n => R .non n, rt := R } (startT N_is_bit ts) n := fun ts n R RE h => match ts, h with | [v_value], h => rf_hs (r_is_bit v_value) n R h
def U_is_ascending (v_value v_bound : T) : D T :=
  dIf (dTOr (dTNot (dB (dN dIsi (dCons (.ok v_value) (dCons (.ok (.ty "tuple")) dNil))))) (dTNot (dB (dN dAll (dCons (D.bind (dSeq (.ok v_value)) fun xs1 => lcD xs1 fun x2 => lcE (d2 U_is_number (.ok x2) (.ok v_bound))) dNil))))) (.ok (.bl false)) (dN dAll (dCons (D.bind (D.bind (dCons (d2 dSub (dN dLen (dCons (.ok v_value) dNil)) (.ok (.int 1))) dNil) rng1) fun xs3 => lcD xs3 fun x4 => lcE (d2 dLt (d2 dIx (.ok v_value) (.ok x4)) (d2 dIx (.ok v_value) (d2 dAdd (.ok x4) (.ok (.int 1)))))) dNil))
theorem r_is_ascending {E : XE} (v_value v_bound : T) : RF E (W_is_ascending E F_is_number) [.tr v_value, .tr v_bound, .no, .no] (U_is_ascending v_value v_bound) := by
  unfold W_is_ascending U_is_ascending
  exact (rf_rr (rr_ifRet (ut_or (ut_not (ut_b (u_n p_isi (ua_cons (u_var rfl) (ua_cons (u_c) ua_nil))))) (ut_not (ut_b (u_n p_all (ua_cons (u_lc (ui_seq (u_var rfl)) (fun x2 => rl1E  (u_call2 (u_var rfl) (u_var rfl)))) ua_nil))))) (rr_ret (u_c)) (rr_ret (u_n p_all (ua_cons (u_lc (ui_rng1 (ua_cons (u_2 p_int (u_n p_len (ua_cons (u_var rfl) ua_nil)) (u_c)) ua_nil)) (fun x4 => rl1E  (u_2 p_ord (u_2 p_ix (u_var rfl) (u_var rfl)) (u_2 p_ix (u_var rfl) (u_2 p_add (u_var rfl) (u_c)))))) ua_nil)))))
abbrev F_is_ascending : FT := ft (L2_ U_is_ascending)
theorem hs_is_ascending : ∀ ts n R RE, F_is_ascending ts n R RE → W_is_ascending RE F_is_number { nx := fun _ n => R .non n, rt := R } (startT N_is_ascending ts) n := fun ts n R RE h => match ts, h with | [v_value, v_bound], h => rf_hs (r_is_ascending v_value v_bound) n R h
def U_is_parity (v_value v_many : T) : D T :=
  dAndV (dN dIsi (dCons (.ok v_value) (dCons (.ok (.ty "tuple")) dNil))) (dAndV (d2 dEq (dN dLen (dCons (.ok v_value) dNil)) (.ok (.int 2))) (dAndV (d1 U_is_bit (d2 dIx (.ok v_value) (.ok (.int 0)))) (d2 U_is_ascending (d2 dIx (.ok v_value) (.ok (.int 1))) (.ok v_many))))
theorem r_is_parity {E : XE} (v_value v_many : T) : RF E (W_is_parity E F_is_bit F_is_ascending) [.tr v_value, .tr v_many] (U_is_parity v_value v_many) := by
  unfold W_is_parity U_is_parity
  exact (rf_rr (rr_ret (u_and (u_n p_isi (ua_cons (u_var rfl) (ua_cons (u_c) ua_nil))) (u_and (u_2 p_eqB (u_n p_len (ua_cons (u_var rfl) ua_nil)) (u_c)) (u_and (u_call1 (u_2 p_ix (u_var rfl) (u_c))) (u_call2 (u_2 p_ix (u_var rfl) (u_c)) (u_var rfl)))))))
abbrev F_is_parity : FT := ft (L2_ U_is_parity)
theorem hs_is_parity : ∀ ts n R RE, F_is_parity ts n R RE → W_is_parity RE F_is_bit F_is_ascending { nx := fun _ n => R .non n, rt := R } (startT N_is_parity ts) n := fun ts n R RE h => match ts, h with | [v_value, v_many], h => rf_hs (r_is_parity v_value v_many) n R h
theorem r_is_line {E : XE} (v_value : T) : RF E (W_is_line E) [.tr v_value] (U_is_line v_value) := by
  unfold W_is_line U_is_line
  exact (rf_rr (rr_ret (u_and (u_n p_isi (ua_cons (u_var rfl) (ua_cons (u_c) ua_nil))) (u_and (u_not (u_n p_isi (ua_cons (u_var rfl) (ua_cons (u_c) ua_nil)))) (u_chain p_ord p_ord (u_c) (u_var rfl) (u_c))))))
abbrev F_is_line : FT := ft (L1 U_is_line)
theorem hs_is_line : ∀ ts n R RE, F_is_line ts n R RE → W_is_line RE { nx := fun _ n => R .non n, rt := R } (startT N_is_line ts) n := fun ts n R RE h => match ts, h with | [v_value], h => rf_hs (r_is_line v_value) n R h
theorem r_are_lines {E : XE} (v_value : T) : RF E (W_are_lines E F_is_line) [.tr v_value, .no, .no] (U_are_lines v_value) := by
  unfold W_are_lines U_are_lines
  exact (rf_rr (rr_ifRet (ut_or (ut_not (ut_b (u_n p_isi (ua_cons (u_var rfl) (ua_cons (u_c) ua_nil))))) (ut_not (ut_b (u_n p_all (ua_cons (u_lc (ui_seq (u_var rfl)) (fun x2 => rl1E  (u_call1 (u_var rfl)))) ua_nil))))) (rr_ret (u_c)) (rr_ret (u_n p_all (ua_cons (u_lc (ui_rng1 (ua_cons (u_2 p_int (u_n p_len (ua_cons (u_var rfl) ua_nil)) (u_c)) ua_nil)) (fun x4 => rl1E  (u_2 p_ord (u_2 p_ix (u_var rfl) (u_var rfl)) (u_2 p_ix (u_var rfl) (u_2 p_add (u_var rfl) (u_c)))))) ua_nil)))))
abbrev F_are_lines : FT := ft (L1 U_are_lines)
theorem hs_are_lines : ∀ ts n R RE, F_are_lines ts n R RE → W_are_lines RE F_is_line { nx := fun _ n => R .non n, rt := R } (startT N_are_lines ts) n := fun ts n R RE h => match ts, h with | [v_value], h => rf_hs (r_are_lines v_value) n R h
theorem r_is_factor {E : XE} (v_text : T) : RF E (W_is_factor E) [.tr v_text] (U_is_factor v_text) := by
  unfold W_is_factor U_is_factor
  exact (rf_rr (rr_ret (u_and (u_2 p_eqB (u_n p_len (ua_cons (u_var rfl) ua_nil)) (u_c)) (u_and (u_2 p_inB (u_2 p_ix (u_var rfl) (u_c)) (u_c)) (u_2 p_inB (u_2 p_ix (u_var rfl) (u_c)) (u_c))))))
abbrev F_is_factor : FT := ft (L1 U_is_factor)
theorem hs_is_factor : ∀ ts n R RE, F_is_factor ts n R RE → W_is_factor RE { nx := fun _ n => R .non n, rt := R } (startT N_is_factor ts) n := fun ts n R RE h => match ts, h with | [v_text], h => rf_hs (r_is_factor v_text) n R h
theorem r_is_word {E : XE} (v_value : T) : RF E (W_is_word E F_is_factor) [.tr v_value, .no, .no, .no] (U_is_word v_value) := by
  unfold W_is_word U_is_word
  exact (rf_rr (rr_ifRet (ut_not (ut_b (u_n p_isi (ua_cons (u_var rfl) (ua_cons (u_c) ua_nil))))) (rr_ret (u_c)) (rr_ifRet (ut_b (u_2 p_eqB (u_var rfl) (u_c))) (rr_ret (u_c)) (rr_seq (s_set (u_ms p_split (u_var rfl) (ua_cons (u_c) ua_nil))) (fun v_factors1 _ => (rr_ifRet (ut_not (ut_b (u_n p_all (ua_cons (u_lc (ui_seq (u_var rfl)) (fun x3 => rl1E  (u_call1 (u_var rfl)))) ua_nil)))) (rr_ret (u_c)) (rr_ret (u_n p_all (ua_cons (u_lc (ui_rng1 (ua_cons (u_2 p_int (u_n p_len (ua_cons (u_var rfl) ua_nil)) (u_c)) ua_nil)) (fun x5 => rl1E  (u_2 p_ord (u_2 p_ix (u_2 p_ix (u_var rfl) (u_var rfl)) (u_c)) (u_2 p_ix (u_2 p_ix (u_var rfl) (u_2 p_add (u_var rfl) (u_c))) (u_c))))) ua_nil)))))))))
abbrev F_is_word : FT := ft (L1 U_is_word)
theorem hs_is_word : ∀ ts n R RE, F_is_word ts n R RE → W_is_word RE F_is_factor { nx := fun _ n => R .non n, rt := R } (startT N_is_word ts) n := fun ts n R RE h => match ts, h with | [v_value], h => rf_hs (r_is_word v_value) n R h
theorem r_is_operator {E : XE} (v_value : T) : RF E (W_is_operator E F_is_word) [.tr v_value] (U_is_operator v_value) := by
  unfold W_is_operator U_is_operator
  exact (rf_rr (rr_ret (u_and (u_n p_isi (ua_cons (u_var rfl) (ua_cons (u_c) ua_nil))) (u_call1 (u_if (ut_b (u_ms p_s1B (u_var rfl) (ua_cons (u_c) ua_nil))) (u_sl (u_var rfl) (uo_some (u_c)) uo_none) (u_var rfl))))))
abbrev F_is_operator : FT := ft (L1 U_is_operator)
theorem hs_is_operator : ∀ ts n R RE, F_is_operator ts n R RE → W_is_operator RE F_is_word { nx := fun _ n => R .non n, rt := R } (startT N_is_operator ts) n := fun ts n R RE h => match ts, h with | [v_value], h => rf_hs (r_is_operator v_value) n R h
theorem r_need_operator {E : XE} (v_value : T) : RF E (W_need_operator E F_is_operator) [.tr v_value] (U_need_operator v_value) := by
  unfold W_need_operator U_need_operator
  exact (rf_if (ut_not (ut_b (u_call1 (u_var rfl)))) (rf_rr (rr_raise (u_c))) rf_nil)
abbrev F_need_operator : FT := ft (L1 U_need_operator)
theorem hs_need_operator : ∀ ts n R RE, F_need_operator ts n R RE → W_need_operator RE F_is_operator { nx := fun _ n => R .non n, rt := R } (startT N_need_operator ts) n := fun ts n R RE h => match ts, h with | [v_value], h => rf_hs (r_need_operator v_value) n R h
theorem r_word_in {E : XE} (v_operator : T) : RF E (W_word_in E) [.tr v_operator] (U_word_in v_operator) := by
  unfold W_word_in U_word_in
  exact (rf_rr (rr_ret (u_if (ut_b (u_ms p_s1B (u_var rfl) (ua_cons (u_c) ua_nil))) (u_sl (u_var rfl) (uo_some (u_c)) uo_none) (u_var rfl))))
abbrev F_word_in : FT := ft (L1 U_word_in)
theorem hs_word_in : ∀ ts n R RE, F_word_in ts n R RE → W_word_in RE { nx := fun _ n => R .non n, rt := R } (startT N_word_in ts) n := fun ts n R RE h => match ts, h with | [v_operator], h => rf_hs (r_word_in v_operator) n R h
theorem r_lines_of {E : XE} (v_operator : T) : RF E (W_lines_of E F_need_operator F_word_in) [.tr v_operator, .no, .no] (U_lines_of v_operator) := by
  unfold W_lines_of U_lines_of
  exact (rf_rr (rr_seq (s_expr (u_call1 (u_var rfl))) (fun _ _ => (rr_seq (s_set (u_call1 (u_var rfl))) (fun v_word1 _ => (rr_ret (u_if (ut_b (u_2 p_eqB (u_var rfl) (u_c))) (u_n p_tupOf (ua_cons (u_lc (ui_seq (u_ms p_split (u_var rfl) (ua_cons (u_c) ua_nil))) (fun x3 => rl1E  (u_ms p_sIdx (u_c) (ua_cons (u_2 p_ix (u_var rfl) (u_c)) ua_nil)))) ua_nil)) (u_n p_tup ua_nil))))))))
abbrev F_lines_of : FT := ft (L1 U_lines_of)
theorem hs_lines_of : ∀ ts n R RE, F_lines_of ts n R RE → W_lines_of RE F_need_operator F_word_in { nx := fun _ n => R .non n, rt := R } (startT N_lines_of ts) n := fun ts n R RE h => match ts, h with | [v_operator], h => rf_hs (r_lines_of v_operator) n R h
theorem r_is_gate {E : XE} (v_name v_lines : T) : RF E (W_is_gate E F_is_line) [.tr v_name, .tr v_lines, .no] (U_is_gate v_name v_lines) := by
  unfold W_is_gate U_is_gate
  exact (rf_rr (rr_ifRet (ut_or (ut_not (ut_b (u_n p_isi (ua_cons (u_var rfl) (ua_cons (u_c) ua_nil))))) (ut_or (ut_not (ut_b (u_n p_isi (ua_cons (u_var rfl) (ua_cons (u_c) ua_nil))))) (ut_not (ut_b (u_n p_all (ua_cons (u_lc (ui_seq (u_var rfl)) (fun x2 => rl1E  (u_call1 (u_var rfl)))) ua_nil)))))) (rr_ret (u_c)) (rr_ifRet (ut_b (u_2 p_inB (u_var rfl) (u_c))) (rr_ret (u_2 p_eqB (u_n p_len (ua_cons (u_var rfl) ua_nil)) (u_c))) (rr_ret (u_and (u_2 p_inB (u_var rfl) (u_c)) (u_and (u_2 p_eqB (u_n p_len (ua_cons (u_var rfl) ua_nil)) (u_c)) (u_2 p_eqB (u_2 p_ix (u_var rfl) (u_c)) (u_2 p_ix (u_var rfl) (u_c)))))))))
abbrev F_is_gate : FT := ft (L2_ U_is_gate)
theorem hs_is_gate : ∀ ts n R RE, F_is_gate ts n R RE → W_is_gate RE F_is_line { nx := fun _ n => R .non n, rt := R } (startT N_is_gate ts) n := fun ts n R RE h => match ts, h with | [v_name, v_lines], h => rf_hs (r_is_gate v_name v_lines) n R h
def U_is_measurement (v_statement : T) : D T :=
  d2 dEq (d2 dIx (.ok v_statement) (.ok (.int 0))) (.ok (.str "measure"))
theorem r_is_measurement {E : XE} (v_statement : T) : RF E (W_is_measurement E) [.tr v_statement] (U_is_measurement v_statement) := by
  unfold W_is_measurement U_is_measurement
  exact (rf_rr (rr_ret (u_2 p_eqB (u_2 p_ix (u_var rfl) (u_c)) (u_c))))
abbrev F_is_measurement : FT := ft (L1 U_is_measurement)
theorem hs_is_measurement : ∀ ts n R RE, F_is_measurement ts n R RE → W_is_measurement RE { nx := fun _ n => R .non n, rt := R } (startT N_is_measurement ts) n := fun ts n R RE h => match ts, h with | [v_statement], h => rf_hs (r_is_measurement v_statement) n R h
def U_acts_on (v_operator v_alive : T) : D T :=
  dAndV (d2 dNe (d1 U_word_in (.ok v_operator)) (.ok (.str "I"))) (dN dAll (dCons (D.bind (dSeq (d1 U_lines_of (.ok v_operator))) fun xs1 => lcD xs1 fun x2 => lcE (d2 (dInB id) (.ok x2) (.ok v_alive))) dNil))
theorem r_acts_on {E : XE} (v_operator v_alive : T) : RF E (W_acts_on E F_word_in F_lines_of) [.tr v_operator, .tr v_alive, .no] (U_acts_on v_operator v_alive) := by
  unfold W_acts_on U_acts_on
  exact (rf_rr (rr_ret (u_and (u_2 p_eqB (u_call1 (u_var rfl)) (u_c)) (u_n p_all (ua_cons (u_lc (ui_seq (u_call1 (u_var rfl))) (fun x2 => rl1E  (u_2 p_inB (u_var rfl) (u_var rfl)))) ua_nil)))))
abbrev F_acts_on : FT := ft (L2_ U_acts_on)
theorem hs_acts_on : ∀ ts n R RE, F_acts_on ts n R RE → W_acts_on RE F_word_in F_lines_of { nx := fun _ n => R .non n, rt := R } (startT N_acts_on ts) n := fun ts n R RE h => match ts, h with | [v_operator, v_alive], h => rf_hs (r_acts_on v_operator v_alive) n R h
def U_alive_behind (v_statement v_alive v_many : T) : D T :=
  dIf (dTOr (dTNot (dB (dN dIsi (dCons (.ok v_statement) (dCons (.ok (.ty "tuple")) dNil))))) (dTOr (dB (d2 dLt (dN dLen (dCons (.ok v_statement) dNil)) (.ok (.int 2)))) (dTNot (dB (dN dIsi (dCons (d2 dIx (.ok v_statement) (.ok (.int 0))) (dCons (.ok (.ty "str")) dNil))))))) (.ok .non) (D.bind (D.bind (dSl (.ok v_statement) dNoPart (dPart (.ok (.int 2)))) dun2) fun z1 => dIf (dB (d2 dEq (.ok z1.1) (.ok (.str "gate")))) (D.bind (dAndV (d2 U_is_gate (.ok z1.2) (dSl (.ok v_statement) (dPart (.ok (.int 2))) dNoPart)) (dN dAll (dCons (D.bind (dSeq (dSl (.ok v_statement) (dPart (.ok (.int 2))) dNoPart)) fun xs3 => lcD xs3 fun x4 => lcE (d2 (dInB id) (.ok x4) (.ok v_alive))) dNil))) fun v_is_right2 => dIf (dB (.ok v_is_right2)) (.ok v_alive) (.ok .non)) (dIf (dB (d2 dEq (.ok z1.1) (.ok (.str "correct")))) (D.bind (dAndV (d2 dEq (dN dLen (dCons (.ok v_statement) dNil)) (.ok (.int 3))) (dAndV (d1 U_is_word (.ok z1.2)) (dAndV (d2 U_acts_on (.ok z1.2) (.ok v_alive)) (d2 U_is_parity (d2 dIx (.ok v_statement) (.ok (.int 2))) (.ok v_many))))) fun v_is_right5 => dIf (dB (.ok v_is_right5)) (.ok v_alive) (.ok .non)) (dIf (dB (d2 dGt (dN dLen (dCons (.ok v_statement) dNil)) (.ok (.int 2)))) (.ok .non) (dIf (dB (d2 dEq (.ok z1.1) (.ok (.str "measure")))) (dIf (dTAnd (dB (d2 dLt (.ok v_many) (.ok (.int 10)))) (dTAnd (dB (d1 U_is_operator (.ok z1.2))) (dB (d2 U_acts_on (.ok z1.2) (.ok v_alive))))) (.ok v_alive) (.ok .non)) (dIf (dTOr (dB (d2 (dInB not) (.ok z1.1) (dN dTup (dCons (.ok (.str "new")) (dCons (.ok (.str "drop")) dNil))))) (dTOr (dTNot (dB (d1 U_is_line (.ok z1.2)))) (dB (d2 dNe (d2 (dInB id) (.ok z1.2) (.ok v_alive)) (d2 dEq (.ok z1.1) (.ok (.str "drop"))))))) (.ok .non) (dIf (dB (d2 dEq (.ok z1.1) (.ok (.str "drop")))) (dN dTupOf (dCons (D.bind (dSeq (.ok v_alive)) fun xs6 => lcD xs6 fun x7 => lcB (dB (d2 dNe (.ok x7) (.ok z1.2))) (.ok x7)) dNil)) (dIf (dB (d2 dLt (dN dLen (dCons (.ok v_alive) dNil)) (.ok (.int 6)))) (dN dTupOf (dCons (dN dSortX (dCons (dN dLst (dStar (.ok v_alive) (dCons (.ok z1.2) dNil))) dNil)) dNil)) (.ok .non))))))))
theorem r_alive_behind {E : XE} (v_statement v_alive v_many : T) : RF E (W_alive_behind E F_is_gate F_is_word F_acts_on F_is_parity F_is_operator F_is_line) [.tr v_statement, .tr v_alive, .tr v_many, .no, .no, .no, .no] (U_alive_behind v_statement v_alive v_many) := by
  unfold W_alive_behind U_alive_behind
  exact (rf_rr (rr_ifRet (ut_or (ut_not (ut_b (u_n p_isi (ua_cons (u_var rfl) (ua_cons (u_c) ua_nil))))) (ut_or (ut_b (u_2 p_ord (u_n p_len (ua_cons (u_var rfl) ua_nil)) (u_c))) (ut_not (ut_b (u_n p_isi (ua_cons (u_2 p_ix (u_var rfl) (u_c)) (ua_cons (u_c) ua_nil))))))) (rr_ret (u_c)) (rr_seq (s_asgN (u_sl (u_var rfl) uo_none (uo_some (u_c))) fun _ => g_2) (fun z1 _ => (rr_ifRet (ut_b (u_2 p_eqB (u_var rfl) (u_c))) (rr_seq (s_set (u_and (u_call2 (u_var rfl) (u_sl (u_var rfl) (uo_some (u_c)) uo_none)) (u_n p_all (ua_cons (u_lc (ui_seq (u_sl (u_var rfl) (uo_some (u_c)) uo_none)) (fun x4 => rl1E  (u_2 p_inB (u_var rfl) (u_var rfl)))) ua_nil)))) (fun v_is_right2 _ => (rr_ret (u_if (ut_b (u_var rfl)) (u_var rfl) (u_c))))) (rr_ifRet (ut_b (u_2 p_eqB (u_var rfl) (u_c))) (rr_seq (s_set (u_and (u_2 p_eqB (u_n p_len (ua_cons (u_var rfl) ua_nil)) (u_c)) (u_and (u_call1 (u_var rfl)) (u_and (u_call2 (u_var rfl) (u_var rfl)) (u_call2 (u_2 p_ix (u_var rfl) (u_c)) (u_var rfl)))))) (fun v_is_right5 _ => (rr_ret (u_if (ut_b (u_var rfl)) (u_var rfl) (u_c))))) (rr_ifRet (ut_b (u_2 p_ord (u_n p_len (ua_cons (u_var rfl) ua_nil)) (u_c))) (rr_ret (u_c)) (rr_ifRet (ut_b (u_2 p_eqB (u_var rfl) (u_c))) (rr_ret (u_if (ut_and (ut_b (u_2 p_ord (u_var rfl) (u_c))) (ut_and (ut_b (u_call1 (u_var rfl))) (ut_b (u_call2 (u_var rfl) (u_var rfl))))) (u_var rfl) (u_c))) (rr_ifRet (ut_or (ut_b (u_2 p_inB (u_var rfl) (u_n p_tup (ua_cons (u_c) (ua_cons (u_c) ua_nil))))) (ut_or (ut_not (ut_b (u_call1 (u_var rfl)))) (ut_b (u_2 p_eqB (u_2 p_inB (u_var rfl) (u_var rfl)) (u_2 p_eqB (u_var rfl) (u_c)))))) (rr_ret (u_c)) (rr_ifRet (ut_b (u_2 p_eqB (u_var rfl) (u_c))) (rr_ret (u_n p_tupOf (ua_cons (u_lc (ui_seq (u_var rfl)) (fun x7 => rl1T (ut_b (u_2 p_eqB (u_var rfl) (u_var rfl))) (u_var rfl))) ua_nil))) (rr_ret (u_if (ut_b (u_2 p_ord (u_n p_len (ua_cons (u_var rfl) ua_nil)) (u_c))) (u_n p_tupOf (ua_cons (u_n p_sortX (ua_cons (u_n p_lst (ua_star (u_var rfl) (ua_cons (u_var rfl) ua_nil))) ua_nil)) ua_nil)) (u_c)))))))))))))
abbrev F_alive_behind : FT := ft (L3 U_alive_behind)
theorem hs_alive_behind : ∀ ts n R RE, F_alive_behind ts n R RE → W_alive_behind RE F_is_gate F_is_word F_acts_on F_is_parity F_is_operator F_is_line { nx := fun _ n => R .non n, rt := R } (startT N_alive_behind ts) n := fun ts n R RE h => match ts, h with | [v_statement, v_alive, v_many], h => rf_hs (r_alive_behind v_statement v_alive v_many) n R h
def U__law_parts (v_m : T) : D T :=
  D.bind (d2 U_next (.ok v_m) (.ok (.int 5))) fun v_a1 => D.bind (D.bind (d2 dAdd (d2 dAdd (.ok v_a1) (.ok (.int 1))) (d2 U_next (.ok v_m) (.ok (.int 4)))) fun y3 => D.bind (d2 U_next (.ok v_m) (.ok (.int 2))) fun y4 => .ok (y3, y4)) fun z2 => D.bind (D.bind (d2 dAdd (.ok (.str "X")) (dN dStr1 (dCons (.ok v_a1) dNil))) fun y6 => D.bind (d2 dAdd (.ok (.str "Z")) (dN dStr1 (dCons (.ok z2.1) dNil))) fun y7 => .ok (y6, y7)) fun z5 => D.bind (dN dLst (dCons (dN dTup (dCons (.ok (.str "gate")) (dCons (.ok (.str "cx")) (dCons (.ok v_a1) (dCons (.ok z2.1) dNil))))) (dCons (dN dTup (dCons (.ok (.str "measure")) (dCons (.ok z5.2) dNil))) (dCons (dN dTup (dCons (.ok (.str "gate")) (dCons (.ok (.str "h")) (dCons (.ok v_a1) dNil)))) (dCons (dN dTup (dCons (.ok (.str "measure")) (dCons (d2 dAdd (d2 dAdd (.ok z5.1) (.ok (.str " "))) (.ok z5.2)) dNil))) dNil))))) fun v_deeds8 => D.bind (d2 dAdd (.ok v_deeds8) (dN dLst (dCons (dN dTup (dCons (.ok (.str "correct")) (dCons (.ok z5.1) (dCons (dN dTup (dCons (.ok z2.2) (dCons (dN dTup (dCons (.ok (.int 0)) (dCons (.ok (.int 1)) dNil))) dNil))) dNil)))) (dCons (dN dTup (dCons (.ok (.str "correct")) (dCons (.ok z5.2) (dCons (dN dTup (dCons (.ok (.int 0)) (dCons (dN dTup (dCons (.ok (.int 1)) dNil)) dNil))) dNil)))) (dCons (dN dTup (dCons (.ok (.str "drop")) (dCons (.ok z2.1) dNil))) dNil))))) fun v_deeds9 => D.bind (dN dTup (dCons (dN dTup (dCons (.ok v_a1) (dCons (.ok z2.1) dNil))) (dCons (dN dTupOf (dCons (.ok v_deeds9) dNil)) (dCons (dN dTup (dCons (dN dTup (dCons (.ok z2.2) (dCons (dN dTup (dCons (.ok (.int 0)) dNil)) dNil))) (dCons (dN dTup (dCons (.ok (.int 1)) (dCons (dN dTup (dCons (.ok (.int 0)) (dCons (.ok (.int 1)) dNil))) dNil))) dNil))) dNil)))) fun v_base10 => D.bind (dN dLst (dCons (dN dTup (dCons (dN dTup (dCons (.ok v_a1) (dCons (.ok z2.1) dNil))) (dCons (dSl (d2 dIx (.ok v_base10) (.ok (.int 1))) dNoPart (dPart (d1 dNeg (.ok (.int 1))))) (dCons (d2 dIx (.ok v_base10) (.ok (.int 2))) dNil)))) (dCons (dN dTup (dCons (dN dTup (dCons (.ok v_a1) (dCons (.ok z2.1) dNil))) (dCons (d2 dIx (.ok v_base10) (.ok (.int 1))) (dCons (dSl (d2 dIx (.ok v_base10) (.ok (.int 2))) dNoPart (dPart (.ok (.int 1)))) dNil)))) (dCons (dN dTup (dCons (dN dTup (dCons (.ok v_a1) (dCons (.ok z2.1) dNil))) (dCons (d2 dIx (.ok v_base10) (.ok (.int 1))) (dCons (d1 dRevS (d2 dIx (.ok v_base10) (.ok (.int 2)))) dNil)))) dNil)))) fun v_found11 => D.bind (dApp v_found11 (dN dTup (dCons (dN dTup (dCons (.ok v_a1) (dCons (.ok z2.1) dNil))) (dCons (d2 dIx (.ok v_base10) (.ok (.int 1))) (dCons (dN dTup (dCons (dN dTup (dCons (d2 dSub (.ok (.int 1)) (.ok z2.2)) (dCons (dN dTup (dCons (.ok (.int 0)) dNil)) dNil))) (dCons (dN dTup (dCons (.ok (.int 1)) (dCons (dN dTup (dCons (.ok (.int 0)) (dCons (.ok (.int 1)) dNil))) dNil))) dNil))) dNil))))) fun v_found12 => D.bind (dN dLst (dCons (dN dTup (dCons (.ok (.int 0)) (dCons (dN dTup (dCons (.ok (.str "gate")) (dCons (.ok (.str "cx")) (dCons (.ok z2.1) (dCons (.ok v_a1) dNil))))) dNil))) (dCons (dN dTup (dCons (.ok (.int 0)) (dCons (dN dTup (dCons (.ok (.str "gate")) (dCons (.ok (.str "cz")) (dCons (.ok v_a1) (dCons (.ok z2.1) dNil))))) dNil))) (dCons (dN dTup (dCons (.ok (.int 1)) (dCons (dN dTup (dCons (.ok (.str "measure")) (dCons (d2 dAdd (.ok (.str "-")) (.ok z5.2)) dNil))) dNil))) (dCons (dN dTup (dCons (.ok (.int 6)) (dCons (dN dTup (dCons (.ok (.str "drop")) (dCons (.ok v_a1) dNil))) dNil))) dNil))))) fun v_bends13 => D.bind (d2 dAdd (.ok v_bends13) (dN dLst (dCons (dN dTup (dCons (.ok (.int 2)) (dCons (dN dTup (dCons (.ok (.str "gate")) (dCons (.ok (.str "s")) (dCons (.ok v_a1) dNil)))) dNil))) (dCons (dN dTup (dCons (.ok (.int 4)) (dCons (dN dTup (dCons (.ok (.str "correct")) (dCons (.ok z5.1) (dCons (dN dTup (dCons (d2 dSub (.ok (.int 1)) (.ok z2.2)) (dCons (dN dTup (dCons (.ok (.int 0)) (dCons (.ok (.int 1)) dNil))) dNil))) dNil)))) dNil))) (dCons (dN dTup (dCons (.ok (.int 4)) (dCons (dN dTup (dCons (.ok (.str "correct")) (dCons (.ok z5.1) (dCons (dN dTup (dCons (.ok z2.2) (dCons (dN dTup (dCons (.ok (.int 0)) dNil)) dNil))) dNil)))) dNil))) dNil))))) fun v_bends14 => D.bind (D.bind (dSeq (.ok v_bends14)) fun xs19 => forD (fun x17 (c15 : T) => D.bind (dun2 x17) fun y18 => D.bind (dApp c15 (dN dTup (dCons (dN dTup (dCons (.ok v_a1) (dCons (.ok z2.1) dNil))) (dCons (d2 dAdd (d2 dAdd (dSl (d2 dIx (.ok v_base10) (.ok (.int 1))) dNoPart (dPart (.ok y18.1))) (dN dTup (dCons (.ok y18.2) dNil))) (dSl (d2 dIx (.ok v_base10) (.ok (.int 1))) (dPart (d2 dAdd (.ok y18.1) (.ok (.int 1)))) dNoPart)) (dCons (d2 dIx (.ok v_base10) (.ok (.int 2))) dNil))))) fun v_found20 => .ok v_found20) xs19 v_found12) fun c21 => D.bind (dApp c21 (dN dTup (dCons (dN dTup (dCons (.ok v_a1) (dCons (.ok z2.1) dNil))) (dCons (d2 dAdd (d2 dAdd (dSl (d2 dIx (.ok v_base10) (.ok (.int 1))) dNoPart (dPart (.ok (.int 4)))) (dN dTup (dCons (d2 dIx (d2 dIx (.ok v_base10) (.ok (.int 1))) (.ok (.int 5))) (dCons (d2 dIx (d2 dIx (.ok v_base10) (.ok (.int 1))) (.ok (.int 4))) dNil)))) (dSl (d2 dIx (.ok v_base10) (.ok (.int 1))) (dPart (.ok (.int 6))) dNoPart)) (dCons (d2 dIx (.ok v_base10) (.ok (.int 2))) dNil))))) fun v_found23 => D.bind (dApp v_found23 (dIf (dB (d2 dLt (.ok z2.1) (.ok (.int 9)))) (dN dTup (dCons (dN dTup (dCons (.ok v_a1) (dCons (.ok z2.1) (dCons (.ok (.int 9)) dNil)))) (dCons (d2 dIx (.ok v_base10) (.ok (.int 1))) (dCons (d2 dIx (.ok v_base10) (.ok (.int 2))) dNil)))) (dN dTup (dCons (dN dTup (dCons (.ok v_a1) (dCons (.ok z2.1) dNil))) (dCons (d2 dAdd (d2 dIx (.ok v_base10) (.ok (.int 1))) (dN dTup (dCons (dN dTup (dCons (.ok (.str "gate")) (dCons (.ok (.str "x")) (dCons (.ok v_a1) dNil)))) dNil))) (dCons (d2 dIx (.ok v_base10) (.ok (.int 2))) dNil)))))) fun v_found24 => dN dTup (dCons (.ok v_base10) (dCons (.ok v_found24) dNil))
theorem r__law_parts {E : XE} (v_m : T) : RF E (W__law_parts E) [.tr v_m, .no, .no, .no, .no, .no, .no, .no, .no, .no, .no, .no] (U__law_parts v_m) := by
  unfold W__law_parts U__law_parts
  exact (rf_rr (rr_seq (s_set (u_next (u_var rfl) (u_c))) (fun v_a1 _ => (rr_seq (s_par (u_2 p_add (u_2 p_add (u_var rfl) (u_c)) (u_next (u_var rfl) (u_c))) (u_next (u_var rfl) (u_c))) (fun z2 _ => (rr_seq (s_par (u_2 p_add (u_c) (u_n p_str1 (ua_cons (u_var rfl) ua_nil))) (u_2 p_add (u_c) (u_n p_str1 (ua_cons (u_var rfl) ua_nil)))) (fun z5 _ => (rr_seq (s_set (u_n p_lst (ua_cons (u_n p_tup (ua_cons (u_c) (ua_cons (u_c) (ua_cons (u_var rfl) (ua_cons (u_var rfl) ua_nil))))) (ua_cons (u_n p_tup (ua_cons (u_c) (ua_cons (u_var rfl) ua_nil))) (ua_cons (u_n p_tup (ua_cons (u_c) (ua_cons (u_c) (ua_cons (u_var rfl) ua_nil)))) (ua_cons (u_n p_tup (ua_cons (u_c) (ua_cons (u_2 p_add (u_2 p_add (u_var rfl) (u_c)) (u_var rfl)) ua_nil))) ua_nil)))))) (fun v_deeds8 _ => (rr_seq (s_set (u_2 p_add (u_var rfl) (u_n p_lst (ua_cons (u_n p_tup (ua_cons (u_c) (ua_cons (u_var rfl) (ua_cons (u_n p_tup (ua_cons (u_var rfl) (ua_cons (u_n p_tup (ua_cons (u_c) (ua_cons (u_c) ua_nil))) ua_nil))) ua_nil)))) (ua_cons (u_n p_tup (ua_cons (u_c) (ua_cons (u_var rfl) (ua_cons (u_n p_tup (ua_cons (u_c) (ua_cons (u_n p_tup (ua_cons (u_c) ua_nil)) ua_nil))) ua_nil)))) (ua_cons (u_n p_tup (ua_cons (u_c) (ua_cons (u_var rfl) ua_nil))) ua_nil)))))) (fun v_deeds9 _ => (rr_seq (s_set (u_n p_tup (ua_cons (u_n p_tup (ua_cons (u_var rfl) (ua_cons (u_var rfl) ua_nil))) (ua_cons (u_n p_tupOf (ua_cons (u_var rfl) ua_nil)) (ua_cons (u_n p_tup (ua_cons (u_n p_tup (ua_cons (u_var rfl) (ua_cons (u_n p_tup (ua_cons (u_c) ua_nil)) ua_nil))) (ua_cons (u_n p_tup (ua_cons (u_c) (ua_cons (u_n p_tup (ua_cons (u_c) (ua_cons (u_c) ua_nil))) ua_nil))) ua_nil))) ua_nil))))) (fun v_base10 _ => (rr_seq (s_own (u_n p_lst (ua_cons (u_n p_tup (ua_cons (u_n p_tup (ua_cons (u_var rfl) (ua_cons (u_var rfl) ua_nil))) (ua_cons (u_sl (u_2 p_ix (u_var rfl) (u_c)) uo_none (uo_some (u_1 p_neg (u_c)))) (ua_cons (u_2 p_ix (u_var rfl) (u_c)) ua_nil)))) (ua_cons (u_n p_tup (ua_cons (u_n p_tup (ua_cons (u_var rfl) (ua_cons (u_var rfl) ua_nil))) (ua_cons (u_2 p_ix (u_var rfl) (u_c)) (ua_cons (u_sl (u_2 p_ix (u_var rfl) (u_c)) uo_none (uo_some (u_c))) ua_nil)))) (ua_cons (u_n p_tup (ua_cons (u_n p_tup (ua_cons (u_var rfl) (ua_cons (u_var rfl) ua_nil))) (ua_cons (u_2 p_ix (u_var rfl) (u_c)) (ua_cons (u_1 p_revS (u_2 p_ix (u_var rfl) (u_c))) ua_nil)))) ua_nil))))) (fun v_found11 _ => (rr_at (ts' := [.tr v_m, .tr v_a1, .tr z2.1, .tr z2.2, .tr z5.1, .tr z5.2, .tr v_deeds9, .tr v_base10, .own v_found11, .no, .no, .no]) rfl (rr_seq (s_app rfl (u_n p_tup (ua_cons (u_n p_tup (ua_cons (u_var rfl) (ua_cons (u_var rfl) ua_nil))) (ua_cons (u_2 p_ix (u_var rfl) (u_c)) (ua_cons (u_n p_tup (ua_cons (u_n p_tup (ua_cons (u_2 p_int (u_c) (u_var rfl)) (ua_cons (u_n p_tup (ua_cons (u_c) ua_nil)) ua_nil))) (ua_cons (u_n p_tup (ua_cons (u_c) (ua_cons (u_n p_tup (ua_cons (u_c) (ua_cons (u_c) ua_nil))) ua_nil))) ua_nil))) ua_nil))))) (fun v_found12 _ => (rr_at (ts' := [.tr v_m, .tr v_a1, .tr z2.1, .tr z2.2, .tr z5.1, .tr z5.2, .tr v_deeds9, .tr v_base10, .own v_found12, .no, .no, .no]) rfl (rr_seq (s_set (u_n p_lst (ua_cons (u_n p_tup (ua_cons (u_c) (ua_cons (u_n p_tup (ua_cons (u_c) (ua_cons (u_c) (ua_cons (u_var rfl) (ua_cons (u_var rfl) ua_nil))))) ua_nil))) (ua_cons (u_n p_tup (ua_cons (u_c) (ua_cons (u_n p_tup (ua_cons (u_c) (ua_cons (u_c) (ua_cons (u_var rfl) (ua_cons (u_var rfl) ua_nil))))) ua_nil))) (ua_cons (u_n p_tup (ua_cons (u_c) (ua_cons (u_n p_tup (ua_cons (u_c) (ua_cons (u_2 p_add (u_c) (u_var rfl)) ua_nil))) ua_nil))) (ua_cons (u_n p_tup (ua_cons (u_c) (ua_cons (u_n p_tup (ua_cons (u_c) (ua_cons (u_var rfl) ua_nil))) ua_nil))) ua_nil)))))) (fun v_bends13 _ => (rr_seq (s_set (u_2 p_add (u_var rfl) (u_n p_lst (ua_cons (u_n p_tup (ua_cons (u_c) (ua_cons (u_n p_tup (ua_cons (u_c) (ua_cons (u_c) (ua_cons (u_var rfl) ua_nil)))) ua_nil))) (ua_cons (u_n p_tup (ua_cons (u_c) (ua_cons (u_n p_tup (ua_cons (u_c) (ua_cons (u_var rfl) (ua_cons (u_n p_tup (ua_cons (u_2 p_int (u_c) (u_var rfl)) (ua_cons (u_n p_tup (ua_cons (u_c) (ua_cons (u_c) ua_nil))) ua_nil))) ua_nil)))) ua_nil))) (ua_cons (u_n p_tup (ua_cons (u_c) (ua_cons (u_n p_tup (ua_cons (u_c) (ua_cons (u_var rfl) (ua_cons (u_n p_tup (ua_cons (u_var rfl) (ua_cons (u_n p_tup (ua_cons (u_c) ua_nil)) ua_nil))) ua_nil)))) ua_nil))) ua_nil)))))) (fun v_bends14 _ => (rr_seq (rn_for (o := fun (c15 : T) (j16 : Sl × Sl) => [.tr v_m, .tr v_a1, .tr z2.1, .tr z2.2, .tr z5.1, .tr z5.2, .tr v_deeds9, .tr v_base10, .own c15, .tr v_bends14, j16.1, j16.2]) v_found12 (Sl.no, Sl.no) rfl (ui_seq (u_var rfl)) (fun x17 c15 j16 => g_2) (fun x17 c15 j16 y18 => (rn_fin (s_app rfl (u_n p_tup (ua_cons (u_n p_tup (ua_cons (u_var rfl) (ua_cons (u_var rfl) ua_nil))) (ua_cons (u_2 p_add (u_2 p_add (u_sl (u_2 p_ix (u_var rfl) (u_c)) uo_none (uo_some (u_var rfl))) (u_n p_tup (ua_cons (u_var rfl) ua_nil))) (u_sl (u_2 p_ix (u_var rfl) (u_c)) (uo_some (u_2 p_add (u_var rfl) (u_c))) uo_none)) (ua_cons (u_2 p_ix (u_var rfl) (u_c)) ua_nil))))) (fun v_found20 _ => (rn_nil v_found20 ((Sl.tr y18.1), (Sl.tr y18.2)) rfl))))) (fun c21 j22 => (rr_seq (s_app rfl (u_n p_tup (ua_cons (u_n p_tup (ua_cons (u_var rfl) (ua_cons (u_var rfl) ua_nil))) (ua_cons (u_2 p_add (u_2 p_add (u_sl (u_2 p_ix (u_var rfl) (u_c)) uo_none (uo_some (u_c))) (u_n p_tup (ua_cons (u_2 p_ix (u_2 p_ix (u_var rfl) (u_c)) (u_c)) (ua_cons (u_2 p_ix (u_2 p_ix (u_var rfl) (u_c)) (u_c)) ua_nil)))) (u_sl (u_2 p_ix (u_var rfl) (u_c)) (uo_some (u_c)) uo_none)) (ua_cons (u_2 p_ix (u_var rfl) (u_c)) ua_nil))))) (fun v_found23 _ => (rr_at (ts' := [.tr v_m, .tr v_a1, .tr z2.1, .tr z2.2, .tr z5.1, .tr z5.2, .tr v_deeds9, .tr v_base10, .own v_found23, .tr v_bends14, j22.1, j22.2]) rfl (rr_seq (s_app rfl (u_if (ut_b (u_2 p_ord (u_var rfl) (u_c))) (u_n p_tup (ua_cons (u_n p_tup (ua_cons (u_var rfl) (ua_cons (u_var rfl) (ua_cons (u_c) ua_nil)))) (ua_cons (u_2 p_ix (u_var rfl) (u_c)) (ua_cons (u_2 p_ix (u_var rfl) (u_c)) ua_nil)))) (u_n p_tup (ua_cons (u_n p_tup (ua_cons (u_var rfl) (ua_cons (u_var rfl) ua_nil))) (ua_cons (u_2 p_add (u_2 p_ix (u_var rfl) (u_c)) (u_n p_tup (ua_cons (u_n p_tup (ua_cons (u_c) (ua_cons (u_c) (ua_cons (u_var rfl) ua_nil)))) ua_nil))) (ua_cons (u_2 p_ix (u_var rfl) (u_c)) ua_nil)))))) (fun v_found24 _ => (rr_at (ts' := [.tr v_m, .tr v_a1, .tr z2.1, .tr z2.2, .tr z5.1, .tr z5.2, .tr v_deeds9, .tr v_base10, .own v_found24, .tr v_bends14, j22.1, j22.2]) rfl (rr_ret (u_n p_tup (ua_cons (u_var rfl) (ua_cons (u_var rfl) ua_nil)))))))))))))))))))))))))))))))))))
abbrev F__law_parts : FT := ft (L1 U__law_parts)
theorem hs__law_parts : ∀ ts n R RE, F__law_parts ts n R RE → W__law_parts RE { nx := fun _ n => R .non n, rt := R } (startT N__law_parts ts) n := fun ts n R RE h => match ts, h with | [v_m], h => rf_hs (r__law_parts v_m) n R h
def U_Program_init (v_inputs v_statements v_tells : T) : D (List (Str × T)) :=
  D.bind (dIf (dTOr (dTNot (dB (d1 U_are_lines (.ok v_inputs)))) (dTOr (dB (d2 dGt (dN dLen (dCons (.ok v_inputs) dNil)) (.ok (.int 6)))) (dTNot (dB (dN dIsi (dCons (.ok v_statements) (dCons (.ok (.ty "tuple")) dNil))))))) (dRaise "BadProgram" "place" (d1 dNeg (.ok (.int 1)))) (.ok ())) fun c1 => D.bind (D.bind (dCons (dN dLst (dCons (.ok v_inputs) dNil)) (dCons (.ok (.int 0)) dNil)) pr2) fun z3 => D.bind (D.bind (D.bind (dCons (.ok v_statements) dNil) enumX) fun xs8 => forD (fun x6 (c4 : T × T) => D.bind (dun2 x6) fun y7 => D.bind (d3 U_alive_behind (.ok y7.2) (D.bind (d1 dNeg (.ok (.int 1))) fun y10 => dIxO c4.1 y10) (.ok c4.2)) fun v_alive9 => D.bind (dIf (dTOr (dB (d2 (dIsB id) (.ok v_alive9) (.ok .non))) (dB (d2 dEq (.ok y7.1) (.ok (.int 40))))) (dRaise "BadProgram" "place" (.ok y7.1)) (.ok ())) fun c11 => D.bind (dApp c4.1 (.ok v_alive9)) fun v_rows13 => D.bind (D.bind (dIf (dB (d1 U_is_measurement (.ok y7.2))) (.ok (.int 1)) (.ok (.int 0))) fun y15 => dIAdd c4.2 y15) fun v_many14 => .ok (v_rows13, v_many14)) xs8 (z3.1, z3.2)) fun c16 => D.bind (dIf (dTOr (dTNot (dB (dN dIsi (dCons (.ok v_tells) (dCons (.ok (.ty "tuple")) dNil))))) (dTOr (dB (d2 dGt (dN dLen (dCons (.ok v_tells) dNil)) (.ok (.int 8)))) (dTNot (dB (dN dAll (dCons (D.bind (dSeq (.ok v_tells)) fun xs18 => lcD xs18 fun x19 => lcE (d2 U_is_parity (.ok x19) (.ok c16.2))) dNil)))))) (dRaise "BadProgram" "place" (dN dLen (dCons (.ok v_statements) dNil))) (.ok ())) fun c20 => D.bind (D.nox (.ok v_inputs)) fun t22 => chk (([] : List (Str × T)).length < 1000) (D.bind (D.nox (.ok v_statements)) fun t23 => chk (((putFT "inputs" t22 []) : List (Str × T)).length < 1000) (D.bind (D.nox (.ok v_tells)) fun t24 => chk (((putFT "statements" t23 (putFT "inputs" t22 [])) : List (Str × T)).length < 1000) (D.bind (D.nox (d2 dIx (.ok c16.1) (d1 dNeg (.ok (.int 1))))) fun t25 => chk (((putFT "tells" t24 (putFT "statements" t23 (putFT "inputs" t22 []))) : List (Str × T)).length < 1000) (D.bind (D.nox (.ok c16.2)) fun t26 => chk (((putFT "outputs" t25 (putFT "tells" t24 (putFT "statements" t23 (putFT "inputs" t22 [])))) : List (Str × T)).length < 1000) (D.bind (D.nox (.ok c16.1)) fun t27 => chk (((putFT "bits" t26 (putFT "outputs" t25 (putFT "tells" t24 (putFT "statements" t23 (putFT "inputs" t22 []))))) : List (Str × T)).length < 1000) (.ok (putFT "rows" t27 (putFT "bits" t26 (putFT "outputs" t25 (putFT "tells" t24 (putFT "statements" t23 (putFT "inputs" t22 []))))))))))))
def LI_Program_init : List T → D (List (Str × T))
  | [v_inputs, v_statements, v_tells] => U_Program_init v_inputs v_statements v_tells
  | _ => .bad
theorem r_Program_init {E : XE} (l : _) (v_inputs v_statements v_tells : T) : RIn E (W_Program_init E F_is_parity F_alive_behind F_is_measurement F_are_lines) [.tr (.cst l), .tr v_inputs, .tr v_statements, .tr v_tells, .no, .no, .no, .no, .no, .no] (U_Program_init v_inputs v_statements v_tells) := by
  unfold W_Program_init U_Program_init
  exact (rin_seq (rn_if (o := fun (c1 : Unit) (j2 : Unit) => [.tr (.cst l), .tr v_inputs, .tr v_statements, .tr v_tells, .no, .no, .no, .no, .no, .no]) (ut_or (ut_not (ut_b (u_call1 (u_var rfl)))) (ut_or (ut_b (u_2 p_ord (u_n p_len (ua_cons (u_var rfl) ua_nil)) (u_c))) (ut_not (ut_b (u_n p_isi (ua_cons (u_var rfl) (ua_cons (u_c) ua_nil))))))) (rn_raise (u_1 p_neg (u_c))) (rn_nil () () rfl)) (fun _ _ => rfl) (fun c1 j2 => (rin_seq (s_parF (uf_f (u_n p_lst (ua_cons (u_var rfl) ua_nil)) (uf_e (u_c) uf_nil))) (fun _ _ => rfl) (fun z3 _ => (rin_seq (rn_for (o := fun (c4 : T × T) (j5 : Sl × Sl × Sl) => [.tr (.cst l), .tr v_inputs, .tr v_statements, .tr v_tells, .own c4.1, .tr c4.2, j5.1, j5.2.1, j5.2.2, .no]) (z3.1, z3.2) (Sl.no, Sl.no, Sl.no) rfl (ui_enumX (ua_cons (u_var rfl) ua_nil)) (fun x6 c4 j5 => g_2) (fun x6 c4 j5 y7 => (rn_seq (s_set (u_call3 (u_var rfl) (u_ixO rfl (u_1 p_neg (u_c))) (u_var rfl))) (fun v_alive9 _ => (rn_seq (rn_if (o := fun (c11 : Unit) (j12 : Unit) => [.tr (.cst l), .tr v_inputs, .tr v_statements, .tr v_tells, .own c4.1, .tr c4.2, .tr y7.1, .tr y7.2, .tr v_alive9, .no]) (ut_or (ut_b (u_2 p_isB (u_var rfl) (u_c))) (ut_b (u_2 p_eqB (u_var rfl) (u_c)))) (rn_raise (u_var rfl)) (rn_nil () () rfl)) (fun c11 j12 => (rn_seq (s_app rfl (u_var rfl)) (fun v_rows13 _ => (rn_at (ts' := [.tr (.cst l), .tr v_inputs, .tr v_statements, .tr v_tells, .own v_rows13, .tr c4.2, .tr y7.1, .tr y7.2, .tr v_alive9, .no]) rfl (rn_fin (s_aug rfl p_iadd (u_if (ut_b (u_call1 (u_var rfl))) (u_c) (u_c))) (fun v_many14 _ => (rn_nil (v_rows13, v_many14) ((Sl.tr y7.1), (Sl.tr y7.2), (Sl.tr v_alive9)) rfl)))))))))))) (fun _ _ => rfl) (fun c16 j17 => (rin_seq (s_frz (rn_if (o := fun (c20 : Unit) (j21 : Unit) => [.tr (.cst l), .tr v_inputs, .tr v_statements, .tr v_tells, .tr c16.1, .tr c16.2, (Sl.see j17.1), (Sl.see j17.2.1), (Sl.see j17.2.2), .no]) (ut_or (ut_not (ut_b (u_n p_isi (ua_cons (u_var rfl) (ua_cons (u_c) ua_nil))))) (ut_or (ut_b (u_2 p_ord (u_n p_len (ua_cons (u_var rfl) ua_nil)) (u_c))) (ut_not (ut_b (u_n p_all (ua_cons (u_lc (ui_seq (u_var rfl)) (fun x19 => rl1E  (u_call2 (u_var rfl) (u_var rfl)))) ua_nil)))))) (rn_raise (u_n p_len (ua_cons (u_var rfl) ua_nil))) (rn_nil () () rfl))) (fun _ _ => rfl) (fun c20 j21 => (rin_tail (rtl_cons (u_var rfl) fun t22 => (rtl_cons (u_var rfl) fun t23 => (rtl_cons (u_var rfl) fun t24 => (rtl_cons (u_2 p_ix (u_var rfl) (u_1 p_neg (u_c))) fun t25 => (rtl_cons (u_var rfl) fun t26 => (rtl_cons (u_var rfl) fun t27 => rtl_nil)))))))))))))))
abbrev F_Program_init : FTI := fti LI_Program_init
theorem hs_Program_init : ∀ ts n R RE, F_Program_init ts n R RE → ∀ l, W_Program_init RE F_is_parity F_alive_behind F_is_measurement F_are_lines (startT N_Program_init (.cst l :: ts)) n R := fun ts n R RE h l => match ts, h with | [v_inputs, v_statements, v_tells], h => r_Program_init l v_inputs v_statements v_tells n R h
def U__law_is_refused (v_entering v_deeds v_spoken : T) : D T :=
  D.bind (.ok (.bl false)) fun v_found1 => D.bind (tryD (D.bind (D.bind (dMake "Program" (List.drop 1 [(.tup [])]) LI_Program_init (dCons (.ok v_entering) (dCons (.ok v_deeds) (dCons (.ok v_spoken) dNil)))) fun _ => .ok ()) fun _ => .ok v_found1) (hD [(["BadProgram"], fun x4 => D.bind (.ok (.bl true)) fun v_found5 => .ok v_found5)])) fun c2 => .ok c2
theorem r__law_is_refused {E : XE} (v_entering v_deeds v_spoken : T) : RF E (W__law_is_refused E F_Program_init) [.tr v_entering, .tr v_deeds, .tr v_spoken, .no] (U__law_is_refused v_entering v_deeds v_spoken) := by
  unfold W__law_is_refused U__law_is_refused
  exact (rf_rr (rr_seq (s_set (u_c)) (fun v_found1 _ => (rr_seq (rn_try (o := fun (c2 : T) (j3 : Unit) => [.tr v_entering, .tr v_deeds, .tr v_spoken, .tr c2]) (fun RE => (rn_fin (s_expr (u_make (ua_cons (u_var rfl) (ua_cons (u_var rfl) (ua_cons (u_var rfl) ua_nil))))) (fun _ _ => (rn_nil v_found1 () rfl)))) (HRN.cons (oc := fun x4 (c2 : T) (j3 : Unit) => [.tr v_entering, .tr v_deeds, .tr v_spoken, .tr c2]) (fun _ _ _ => rfl) (fun x4 => (rn_fin (s_set (u_c)) (fun v_found5 _ => (rn_nil v_found5 () rfl)))) HRN.nil)) (fun c2 j3 => (rr_ret (u_var rfl)))))))
abbrev F__law_is_refused : FT := ft (L3 U__law_is_refused)
theorem hs__law_is_refused : ∀ ts n R RE, F__law_is_refused ts n R RE → W__law_is_refused RE F_Program_init { nx := fun _ n => R .non n, rt := R } (startT N__law_is_refused ts) n := fun ts n R RE h => match ts, h with | [v_entering, v_deeds, v_spoken], h => rf_hs (r__law_is_refused v_entering v_deeds v_spoken) n R h
def U__law_kinds_right (v_a : T) : D T :=
  D.bind (dN dTup (dCons (.ok (.str "measure")) (dCons (d2 dAdd (.ok (.str "Z")) (dN dStr1 (dCons (.ok v_a) dNil))) dNil))) fun v_look1 => D.bind (d2 dAdd (.ok (.str "X")) (dN dStr1 (dCons (.ok v_a) dNil))) fun v_mend2 => D.bind (dN dLst (dCons (dN dTup (dCons (dN dTup (dCons (.ok v_a) dNil)) (dCons (dN dTup (dCons (.ok v_look1) (dCons (dN dTup (dCons (.ok (.str "correct")) (dCons (.ok v_mend2) (dCons (dN dTup (dCons (.ok (.bl true)) (dCons (dN dTup (dCons (.ok (.int 0)) dNil)) dNil))) dNil)))) dNil))) (dCons (dN dTup dNil) dNil)))) (dCons (dN dTup (dCons (dN dTup (dCons (.ok v_a) dNil)) (dCons (dN dTup (dCons (.ok v_look1) (dCons (dN dTup (dCons (.ok (.str "correct")) (dCons (.ok v_mend2) (dCons (dN dTup (dCons (.ok (.int 0)) (dCons (dN dTup (dCons (.ok (.bl false)) dNil)) dNil))) dNil)))) dNil))) (dCons (dN dTup dNil) dNil)))) dNil))) fun v_wrong3 => D.bind (d2 dCat (.ok v_wrong3) (dN dLst (dCons (dN dTup (dCons (dN dTup (dCons (.ok v_a) dNil)) (dCons (dN dTup (dCons (.ok v_look1) (dCons (dN dTup (dCons (.ok (.str "correct")) (dCons (.ok v_mend2) (dCons (dN dTup (dCons (.ok (.int 0)) (dCons (dN dLst (dCons (.ok (.int 0)) dNil)) dNil))) dNil)))) dNil))) (dCons (dN dTup dNil) dNil)))) (dCons (dN dTup (dCons (dN dTup (dCons (.ok v_a) dNil)) (dCons (dN dTup (dCons (.ok v_look1) (dCons (dN dTup (dCons (.ok (.str "correct")) (dCons (.ok v_mend2) (dCons (dN dLst (dCons (.ok (.int 0)) (dCons (dN dTup (dCons (.ok (.int 0)) dNil)) dNil))) dNil)))) dNil))) (dCons (dN dTup dNil) dNil)))) dNil)))) fun v_wrong4 => D.bind (d2 dCat (.ok v_wrong4) (dN dLst (dCons (dN dTup (dCons (dN dTup (dCons (.ok v_a) dNil)) (dCons (dN dTup (dCons (.ok v_look1) dNil)) (dCons (dN dTup (dCons (dN dTup (dCons (.ok (.bl false)) (dCons (dN dTup (dCons (.ok (.int 0)) dNil)) dNil))) dNil)) dNil)))) (dCons (dN dTup (dCons (dN dTup (dCons (.ok v_a) dNil)) (dCons (dN dTup (dCons (.ok v_look1) dNil)) (dCons (dN dLst (dCons (dN dTup (dCons (.ok (.int 0)) (dCons (dN dTup (dCons (.ok (.int 0)) dNil)) dNil))) dNil)) dNil)))) (dCons (dN dTup (dCons (dN dTup (dCons (.ok v_a) dNil)) (dCons (dN dLst (dCons (.ok v_look1) dNil)) (dCons (dN dTup dNil) dNil)))) (dCons (dN dTup (dCons (dN dLst (dCons (.ok v_a) dNil)) (dCons (dN dTup dNil) (dCons (dN dTup dNil) dNil)))) dNil)))))) fun v_wrong5 => D.bind (d2 dCat (.ok v_wrong5) (dN dLst (dCons (dN dTup (dCons (dN dTup (dCons (.ok v_a) dNil)) (dCons (dN dTup (dCons (dN dLst (dCons (.ok (.str "measure")) (dCons (d2 dAdd (.ok (.str "Z")) (dN dStr1 (dCons (.ok v_a) dNil))) dNil))) dNil)) (dCons (dN dTup dNil) dNil)))) (dCons (dN dTup (dCons (dN dTup (dCons (.ok (.bl true)) dNil)) (dCons (dN dTup dNil) (dCons (dN dTup dNil) dNil)))) (dCons (dN dTup (dCons (dN dTup (dCons (.ok (.int 1)) dNil)) (dCons (dN dTup (dCons (dN dTup (dCons (.ok (.str "gate")) (dCons (.ok (.str "h")) (dCons (.ok (.bl true)) dNil)))) dNil)) (dCons (dN dTup dNil) dNil)))) dNil))))) fun v_wrong6 => D.bind (d2 dCat (.ok v_wrong6) (dN dLst (dCons (dN dTup (dCons (dN dTup (dCons (.ok (.int 0)) (dCons (.ok (.int 1)) dNil))) (dCons (dN dTup (dCons (dN dTup (dCons (.ok (.str "gate")) (dCons (.ok (.str "cx")) (dCons (.ok (.bl false)) (dCons (.ok (.bl true)) dNil))))) dNil)) (dCons (dN dTup dNil) dNil)))) (dCons (dN dTup (dCons (dN dTup (dCons (.ok (.int 0)) dNil)) (dCons (dN dTup (dCons (dN dTup (dCons (.ok (.str "drop")) (dCons (.ok (.bl false)) dNil))) dNil)) (dCons (dN dTup dNil) dNil)))) dNil)))) fun v_wrong7 => D.bind (dApp v_wrong7 (dN dTup (dCons (dN dTup dNil) (dCons (dN dTup (dCons (dN dTup (dCons (.ok (.str "new")) (dCons (.ok (.bl true)) dNil))) dNil)) (dCons (dN dTup dNil) dNil))))) fun v_wrong8 => d2 dEq (D.bind (dSeq (.ok v_wrong8)) fun xs9 => lcD xs9 fun x10 => un3 x10 fun v_entering11 v_deeds12 v_spoken13 => lcB (dTNot (dB (d3 U__law_is_refused (.ok v_entering11) (.ok v_deeds12) (.ok v_spoken13)))) (.ok (.int 1))) (dN dLst dNil)
theorem r__law_kinds_right {E : XE} (v_a : T) : RF E (W__law_kinds_right E F__law_is_refused) [.tr v_a, .no, .no, .no, .no, .no, .no] (U__law_kinds_right v_a) := by
  unfold W__law_kinds_right U__law_kinds_right
  exact (rf_rr (rr_seq (s_set (u_n p_tup (ua_cons (u_c) (ua_cons (u_2 p_add (u_c) (u_n p_str1 (ua_cons (u_var rfl) ua_nil))) ua_nil)))) (fun v_look1 _ => (rr_seq (s_set (u_2 p_add (u_c) (u_n p_str1 (ua_cons (u_var rfl) ua_nil)))) (fun v_mend2 _ => (rr_seq (s_own (u_n p_lst (ua_cons (u_n p_tup (ua_cons (u_n p_tup (ua_cons (u_var rfl) ua_nil)) (ua_cons (u_n p_tup (ua_cons (u_var rfl) (ua_cons (u_n p_tup (ua_cons (u_c) (ua_cons (u_var rfl) (ua_cons (u_n p_tup (ua_cons (u_c) (ua_cons (u_n p_tup (ua_cons (u_c) ua_nil)) ua_nil))) ua_nil)))) ua_nil))) (ua_cons (u_n p_tup ua_nil) ua_nil)))) (ua_cons (u_n p_tup (ua_cons (u_n p_tup (ua_cons (u_var rfl) ua_nil)) (ua_cons (u_n p_tup (ua_cons (u_var rfl) (ua_cons (u_n p_tup (ua_cons (u_c) (ua_cons (u_var rfl) (ua_cons (u_n p_tup (ua_cons (u_c) (ua_cons (u_n p_tup (ua_cons (u_c) ua_nil)) ua_nil))) ua_nil)))) ua_nil))) (ua_cons (u_n p_tup ua_nil) ua_nil)))) ua_nil)))) (fun v_wrong3 _ => (rr_at (ts' := [.tr v_a, .tr v_look1, .tr v_mend2, .own v_wrong3, .no, .no, .no]) rfl (rr_seq (s_frz (s_own (u_2 p_cat (u_var rfl) (u_n p_lst (ua_cons (u_n p_tup (ua_cons (u_n p_tup (ua_cons (u_var rfl) ua_nil)) (ua_cons (u_n p_tup (ua_cons (u_var rfl) (ua_cons (u_n p_tup (ua_cons (u_c) (ua_cons (u_var rfl) (ua_cons (u_n p_tup (ua_cons (u_c) (ua_cons (u_n p_lst (ua_cons (u_c) ua_nil)) ua_nil))) ua_nil)))) ua_nil))) (ua_cons (u_n p_tup ua_nil) ua_nil)))) (ua_cons (u_n p_tup (ua_cons (u_n p_tup (ua_cons (u_var rfl) ua_nil)) (ua_cons (u_n p_tup (ua_cons (u_var rfl) (ua_cons (u_n p_tup (ua_cons (u_c) (ua_cons (u_var rfl) (ua_cons (u_n p_lst (ua_cons (u_c) (ua_cons (u_n p_tup (ua_cons (u_c) ua_nil)) ua_nil))) ua_nil)))) ua_nil))) (ua_cons (u_n p_tup ua_nil) ua_nil)))) ua_nil)))))) (fun v_wrong4 _ => (rr_at (ts' := [.tr v_a, .tr v_look1, .tr v_mend2, .own v_wrong4, .no, .no, .no]) rfl (rr_seq (s_frz (s_own (u_2 p_cat (u_var rfl) (u_n p_lst (ua_cons (u_n p_tup (ua_cons (u_n p_tup (ua_cons (u_var rfl) ua_nil)) (ua_cons (u_n p_tup (ua_cons (u_var rfl) ua_nil)) (ua_cons (u_n p_tup (ua_cons (u_n p_tup (ua_cons (u_c) (ua_cons (u_n p_tup (ua_cons (u_c) ua_nil)) ua_nil))) ua_nil)) ua_nil)))) (ua_cons (u_n p_tup (ua_cons (u_n p_tup (ua_cons (u_var rfl) ua_nil)) (ua_cons (u_n p_tup (ua_cons (u_var rfl) ua_nil)) (ua_cons (u_n p_lst (ua_cons (u_n p_tup (ua_cons (u_c) (ua_cons (u_n p_tup (ua_cons (u_c) ua_nil)) ua_nil))) ua_nil)) ua_nil)))) (ua_cons (u_n p_tup (ua_cons (u_n p_tup (ua_cons (u_var rfl) ua_nil)) (ua_cons (u_n p_lst (ua_cons (u_var rfl) ua_nil)) (ua_cons (u_n p_tup ua_nil) ua_nil)))) (ua_cons (u_n p_tup (ua_cons (u_n p_lst (ua_cons (u_var rfl) ua_nil)) (ua_cons (u_n p_tup ua_nil) (ua_cons (u_n p_tup ua_nil) ua_nil)))) ua_nil)))))))) (fun v_wrong5 _ => (rr_at (ts' := [.tr v_a, .tr v_look1, .tr v_mend2, .own v_wrong5, .no, .no, .no]) rfl (rr_seq (s_frz (s_own (u_2 p_cat (u_var rfl) (u_n p_lst (ua_cons (u_n p_tup (ua_cons (u_n p_tup (ua_cons (u_var rfl) ua_nil)) (ua_cons (u_n p_tup (ua_cons (u_n p_lst (ua_cons (u_c) (ua_cons (u_2 p_add (u_c) (u_n p_str1 (ua_cons (u_var rfl) ua_nil))) ua_nil))) ua_nil)) (ua_cons (u_n p_tup ua_nil) ua_nil)))) (ua_cons (u_n p_tup (ua_cons (u_n p_tup (ua_cons (u_c) ua_nil)) (ua_cons (u_n p_tup ua_nil) (ua_cons (u_n p_tup ua_nil) ua_nil)))) (ua_cons (u_n p_tup (ua_cons (u_n p_tup (ua_cons (u_c) ua_nil)) (ua_cons (u_n p_tup (ua_cons (u_n p_tup (ua_cons (u_c) (ua_cons (u_c) (ua_cons (u_c) ua_nil)))) ua_nil)) (ua_cons (u_n p_tup ua_nil) ua_nil)))) ua_nil))))))) (fun v_wrong6 _ => (rr_at (ts' := [.tr v_a, .tr v_look1, .tr v_mend2, .own v_wrong6, .no, .no, .no]) rfl (rr_seq (s_frz (s_own (u_2 p_cat (u_var rfl) (u_n p_lst (ua_cons (u_n p_tup (ua_cons (u_n p_tup (ua_cons (u_c) (ua_cons (u_c) ua_nil))) (ua_cons (u_n p_tup (ua_cons (u_n p_tup (ua_cons (u_c) (ua_cons (u_c) (ua_cons (u_c) (ua_cons (u_c) ua_nil))))) ua_nil)) (ua_cons (u_n p_tup ua_nil) ua_nil)))) (ua_cons (u_n p_tup (ua_cons (u_n p_tup (ua_cons (u_c) ua_nil)) (ua_cons (u_n p_tup (ua_cons (u_n p_tup (ua_cons (u_c) (ua_cons (u_c) ua_nil))) ua_nil)) (ua_cons (u_n p_tup ua_nil) ua_nil)))) ua_nil)))))) (fun v_wrong7 _ => (rr_at (ts' := [.tr v_a, .tr v_look1, .tr v_mend2, .own v_wrong7, .no, .no, .no]) rfl (rr_seq (s_app rfl (u_n p_tup (ua_cons (u_n p_tup ua_nil) (ua_cons (u_n p_tup (ua_cons (u_n p_tup (ua_cons (u_c) (ua_cons (u_c) ua_nil))) ua_nil)) (ua_cons (u_n p_tup ua_nil) ua_nil))))) (fun v_wrong8 _ => (rr_at (ts' := [.tr v_a, .tr v_look1, .tr v_mend2, .own v_wrong8, .no, .no, .no]) rfl (rr_ret (u_2 p_eqB (u_lc (ui_seq (u_var rfl)) (fun x10 => rl3T (fun v_entering11 v_deeds12 v_spoken13 => (ut_not (ut_b (u_call3 (u_var rfl) (u_var rfl) (u_var rfl))))) (fun v_entering11 v_deeds12 v_spoken13 => (u_c)))) (u_n p_lst ua_nil))))))))))))))))))))))))))
abbrev F__law_kinds_right : FT := ft (L1 U__law_kinds_right)
theorem hs__law_kinds_right : ∀ ts n R RE, F__law_kinds_right ts n R RE → W__law_kinds_right RE F__law_is_refused { nx := fun _ n => R .non n, rt := R } (startT N__law_kinds_right ts) n := fun ts n R RE h => match ts, h with | [v_a], h => rf_hs (r__law_kinds_right v_a) n R h
def U_Program_eq (v_self v_other : T) : D T :=
  dIf (dTNot (dB (dN dIsiX (dCons (.ok v_other) (dCons (.ok (.cls "Program")) dNil))))) (.ok (.bl false)) (dAndV (d2 dEq (d1 (dAttr "inputs") (.ok v_self)) (d1 (dAttr "inputs") (.ok v_other))) (dAndV (d2 dEq (d1 (dAttr "statements") (.ok v_self)) (d1 (dAttr "statements") (.ok v_other))) (d2 dEq (d1 (dAttr "tells") (.ok v_self)) (d1 (dAttr "tells") (.ok v_other)))))
theorem r_Program_eq {E : XE} (v_self v_other : T) : RF E (W_Program_eq E) [.tr v_self, .tr v_other] (U_Program_eq v_self v_other) := by
  unfold W_Program_eq U_Program_eq
  exact (rf_rr (rr_ifRet (ut_not (ut_b (u_n p_isiX (ua_cons (u_var rfl) (ua_cons (u_c) ua_nil))))) (rr_ret (u_c)) (rr_ret (u_and (u_2 p_eqB (u_1 p_attr (u_var rfl)) (u_1 p_attr (u_var rfl))) (u_and (u_2 p_eqB (u_1 p_attr (u_var rfl)) (u_1 p_attr (u_var rfl))) (u_2 p_eqB (u_1 p_attr (u_var rfl)) (u_1 p_attr (u_var rfl))))))))
abbrev F_Program_eq : FT := ft (L2_ U_Program_eq)
theorem hs_Program_eq : ∀ ts n R RE, F_Program_eq ts n R RE → W_Program_eq RE { nx := fun _ n => R .non n, rt := R } (startT N_Program_eq ts) n := fun ts n R RE h => match ts, h with | [v_self, v_other], h => rf_hs (r_Program_eq v_self v_other) n R h
def U_law (v_script : T) : D T :=
  D.bind (D.bind (D.bind (dCons (d2 dAdd (.ok (.int 3)) (dN dMin2 (dCons (dN dLen (dCons (.ok v_script) dNil)) (dCons (.ok (.int 5)) dNil)))) dNil) rng1) fun xs5 => forM (fun x3 (c1 : Unit) => D.bind ((.ok x3)) fun y4 => D.bind (D.bind (d1 U__law_parts (.ok .mach)) dun2) fun z6 => D.bind (dMake "Program" (List.drop 1 [(.tup [])]) LI_Program_init (dCons (d2 dIx (.ok z6.1) (.ok (.int 0))) (dCons (d2 dIx (.ok z6.1) (.ok (.int 1))) (dCons (d2 dIx (.ok z6.1) (.ok (.int 2))) dNil)))) fun v_made7 => dIf (dTOr (dTNot (dB (d2 (dEqO [("Program", L2_ U_Program_eq)]) (.ok v_made7) (dMake "Program" (List.drop 1 [(.tup [])]) LI_Program_init (dCons (d2 dIx (.ok z6.1) (.ok (.int 0))) (dCons (dN dTupOf (dCons (dN dListOf (dCons (d2 dIx (.ok z6.1) (.ok (.int 1))) dNil)) dNil)) (dCons (d2 dIx (.ok z6.1) (.ok (.int 2))) dNil))))))) (dTOr (dB (d2 (dEqO [("Program", L2_ U_Program_eq)]) (.ok v_made7) (.ok z6.1))) (dB (d2 (dEqO [("Program", L2_ U_Program_eq)]) (.ok v_made7) (d2 dIx (.ok z6.1) (.ok (.int 1))))))) (dRet (.ok (.bl false))) (D.bind (D.bind (dSeq (.ok z6.2)) fun xs12 => forM (fun x10 (c8 : Unit) => D.bind (dun3 x10) fun y11 => D.bind (dMake "Program" (List.drop 1 [(.tup [])]) LI_Program_init (dCons (.ok y11.1) (dCons (.ok y11.2.1) (dCons (.ok y11.2.2) dNil)))) fun v_far13 => dIf (dTOr (dB (d2 (dEqO [("Program", L2_ U_Program_eq)]) (.ok v_made7) (.ok v_far13))) (dTOr (dTNot (dB (d2 (dNeO [("Program", L2_ U_Program_eq)]) (.ok v_made7) (.ok v_far13)))) (dTOr (dB (d2 (dEqO [("Program", L2_ U_Program_eq)]) (.ok v_far13) (.ok v_made7))) (dB (d2 (dNeO [("Program", L2_ U_Program_eq)]) (.ok v_far13) (dMake "Program" (List.drop 1 [(.tup [])]) LI_Program_init (dCons (.ok y11.1) (dCons (.ok y11.2.1) (dCons (.ok y11.2.2) dNil))))))))) (dRet (.ok (.bl false))) (.ok (.next ()))) xs12 ()) (seqM fun c14 => D.bind (dN dListOf (dCons (d2 dIx (.ok z6.1) (.ok (.int 1))) dNil)) fun v_kept16 => D.bind (dMake "Program" (List.drop 1 [(.tup [])]) LI_Program_init (dCons (d2 dIx (.ok z6.1) (.ok (.int 0))) (dCons (dTupO v_kept16) (dCons (d2 dIx (.ok z6.1) (.ok (.int 2))) dNil)))) fun v_again17 => D.bind (D.bind (dN dTup (dCons (.ok (.str "gate")) (dCons (.ok (.str "x")) (dCons (d2 dIx (d2 dIx (.ok z6.1) (.ok (.int 0))) (.ok (.int 0))) dNil)))) fun y19 => stL v_kept16 (.ok (.int 0)) y19) fun v_kept18 => dIf (dTOr (dB (d2 (dNeO [("Program", L2_ U_Program_eq)]) (.ok v_again17) (.ok v_made7))) (dB (d2 dNe (d1 (dAttr "statements") (.ok v_again17)) (d2 dIx (.ok z6.1) (.ok (.int 1)))))) (dRet (.ok (.bl false))) (dIf (dTNot (dB (d1 U__law_kinds_right (d2 U_next (.ok .mach) (.ok (.int 10)))))) (dRet (.ok (.bl false))) (.ok (.next ())))))) xs5 ()) (finM fun c20 => dAndV (dNotV (d2 (dEqO [("Program", L2_ U_Program_eq)]) (dMake "Program" (List.drop 0 [(.tup [])]) LI_Program_init (dCons (dN dTup dNil) (dCons (dN dTup dNil) dNil))) (dMake "Program" (List.drop 0 [(.tup [])]) LI_Program_init (dCons (dN dTup (dCons (.ok (.int 0)) dNil)) (dCons (dN dTup dNil) dNil))))) (d2 (dEqO [("Program", L2_ U_Program_eq)]) (dMake "Program" (List.drop 0 [(.tup [])]) LI_Program_init (dCons (dN dTup dNil) (dCons (dN dTup dNil) dNil))) (dMake "Program" (List.drop 1 [(.tup [])]) LI_Program_init (dCons (dN dTup dNil) (dCons (dN dTup dNil) (dCons (dN dTup dNil) dNil))))))
theorem r_law {E : XE} (v_script : T) : RF E (W_law E F__law_parts F_Program_init F_Program_eq F__law_kinds_right) [.tr v_script, .tr .mach, .no, .no, .no, .no, .no, .no, .no, .no, .no, .no] (U_law v_script) := by
  unfold W_law U_law
  exact (rf_rr (rr_seqM (rm_for (o := fun (c1 : Unit) (j2 : Sl × Sl × Sl × Sl × Sl × Sl × Sl × Sl × Sl × Sl) => [.tr v_script, .tr .mach, j2.1, j2.2.1, j2.2.2.1, j2.2.2.2.1, j2.2.2.2.2.1, j2.2.2.2.2.2.1, j2.2.2.2.2.2.2.1, j2.2.2.2.2.2.2.2.1, j2.2.2.2.2.2.2.2.2.1, j2.2.2.2.2.2.2.2.2.2]) () (Sl.no, Sl.no, Sl.no, Sl.no, Sl.no, Sl.no, Sl.no, Sl.no, Sl.no, Sl.no) rfl (ui_rng1 (ua_cons (u_2 p_add (u_c) (u_n p_mm (ua_cons (u_n p_len (ua_cons (u_var rfl) ua_nil)) (ua_cons (u_c) ua_nil)))) ua_nil)) (fun x3 c1 j2 => g_1) (fun x3 c1 j2 y4 => (rm_seq (s_asgN (u_call1 (u_var rfl)) fun _ => g_2) (fun z6 _ => (rm_seq (s_set (u_make (ua_cons (u_2 p_ix (u_var rfl) (u_c)) (ua_cons (u_2 p_ix (u_var rfl) (u_c)) (ua_cons (u_2 p_ix (u_var rfl) (u_c)) ua_nil))))) (fun v_made7 _ => (rm_ifRet (ut_or (ut_not (ut_b (u_2 (p_eqO [("Program", L2_ U_Program_eq)]) (u_var rfl) (u_make (ua_cons (u_2 p_ix (u_var rfl) (u_c)) (ua_cons (u_n p_tupOf (ua_cons (u_n p_listOf (ua_cons (u_2 p_ix (u_var rfl) (u_c)) ua_nil)) ua_nil)) (ua_cons (u_2 p_ix (u_var rfl) (u_c)) ua_nil))))))) (ut_or (ut_b (u_2 (p_eqO [("Program", L2_ U_Program_eq)]) (u_var rfl) (u_var rfl))) (ut_b (u_2 (p_eqO [("Program", L2_ U_Program_eq)]) (u_var rfl) (u_2 p_ix (u_var rfl) (u_c)))))) (rr_ret (u_c)) (rm_seqM (rm_for (o := fun (c8 : Unit) (j9 : Sl × Sl × Sl × Sl) => [.tr v_script, .tr .mach, .tr y4, .tr z6.1, .tr z6.2, .tr v_made7, j9.1, j9.2.1, j9.2.2.1, j9.2.2.2, j2.2.2.2.2.2.2.2.2.1, j2.2.2.2.2.2.2.2.2.2]) () (j2.2.2.2.2.1, j2.2.2.2.2.2.1, j2.2.2.2.2.2.2.1, j2.2.2.2.2.2.2.2.1) rfl (ui_seq (u_var rfl)) (fun x10 c8 j9 => g_3) (fun x10 c8 j9 y11 => (rm_seq (s_set (u_make (ua_cons (u_var rfl) (ua_cons (u_var rfl) (ua_cons (u_var rfl) ua_nil))))) (fun v_far13 _ => (rm_if (ut_or (ut_b (u_2 (p_eqO [("Program", L2_ U_Program_eq)]) (u_var rfl) (u_var rfl))) (ut_or (ut_not (ut_b (u_2 (p_neO [("Program", L2_ U_Program_eq)]) (u_var rfl) (u_var rfl)))) (ut_or (ut_b (u_2 (p_eqO [("Program", L2_ U_Program_eq)]) (u_var rfl) (u_var rfl))) (ut_b (u_2 (p_neO [("Program", L2_ U_Program_eq)]) (u_var rfl) (u_make (ua_cons (u_var rfl) (ua_cons (u_var rfl) (ua_cons (u_var rfl) ua_nil))))))))) (rm_rr (rr_ret (u_c))) (rm_nil () ((Sl.tr y11.1), (Sl.tr y11.2.1), (Sl.tr y11.2.2), (Sl.tr v_far13)) rfl)))))) (fun c14 j15 => (rm_seq (s_own (u_n p_listOf (ua_cons (u_2 p_ix (u_var rfl) (u_c)) ua_nil))) (fun v_kept16 _ => (rm_at (ts' := [.tr v_script, .tr .mach, .tr y4, .tr z6.1, .tr z6.2, .tr v_made7, j15.1, j15.2.1, j15.2.2.1, j15.2.2.2, .own v_kept16, j2.2.2.2.2.2.2.2.2.2]) rfl (rm_seq (s_set (u_make (ua_cons (u_2 p_ix (u_var rfl) (u_c)) (ua_cons (u_tupO rfl) (ua_cons (u_2 p_ix (u_var rfl) (u_c)) ua_nil))))) (fun v_again17 _ => (rm_seq (s_asgN (u_n p_tup (ua_cons (u_c) (ua_cons (u_c) (ua_cons (u_2 p_ix (u_2 p_ix (u_var rfl) (u_c)) (u_c)) ua_nil)))) fun _ => g_stL rfl (u_c)) (fun v_kept18 _ => (rm_frz (rm_ifRet (ut_or (ut_b (u_2 (p_neO [("Program", L2_ U_Program_eq)]) (u_var rfl) (u_var rfl))) (ut_b (u_2 p_eqB (u_1 p_attr (u_var rfl)) (u_2 p_ix (u_var rfl) (u_c))))) (rr_ret (u_c)) (rm_if (ut_not (ut_b (u_call1 (u_next (u_var rfl) (u_c))))) (rm_rr (rr_ret (u_c))) (rm_nil () ((Sl.tr y4), (Sl.tr z6.1), (Sl.tr z6.2), (Sl.tr v_made7), (Sl.see j15.1), (Sl.see j15.2.1), (Sl.see j15.2.2.1), (Sl.see j15.2.2.2), (Sl.tr v_kept18), (Sl.tr v_again17)) rfl)))))))))))))))))))) (fun c20 j21 => (rr_ret (u_and (u_not (u_2 (p_eqO [("Program", L2_ U_Program_eq)]) (u_make (ua_cons (u_n p_tup ua_nil) (ua_cons (u_n p_tup ua_nil) ua_nil))) (u_make (ua_cons (u_n p_tup (ua_cons (u_c) ua_nil)) (ua_cons (u_n p_tup ua_nil) ua_nil))))) (u_2 (p_eqO [("Program", L2_ U_Program_eq)]) (u_make (ua_cons (u_n p_tup ua_nil) (ua_cons (u_n p_tup ua_nil) ua_nil))) (u_make (ua_cons (u_n p_tup ua_nil) (ua_cons (u_n p_tup ua_nil) (ua_cons (u_n p_tup ua_nil) ua_nil))))))))))
end K13
/-! Reasoning over the functional layer: loops, comprehensions, draws. -/
namespace TL
open PySem L2
local instance : Mach := machA
local instance : CN := ⟨fun _ => none⟩
local instance : Xw := Xw.no
inductive All2 {α β : Type} (P : α → β → Prop) : List α → List β → Prop where
  | nil : All2 P [] []
  | cons {a : α} {b : β} {r : List α} {s : List β} (h : P a b) (t : All2 P r s) : All2 P (a :: r) (b :: s)
theorem All2.length {α β : Type} {P : α → β → Prop} {xs : List α} {ys : List β} (h : All2 P xs ys) : xs.length = ys.length := by
  induction h with
  | nil => rfl
  | cons _ _ ih => simp [ih]
theorem le_sz {n : Nat} (h : n ≤ 1000000) : n ≤ sizeLine := Nat.le_trans h (by decide)
theorem lt_sz {n : Nat} (h : n ≤ 1000000) : n < sizeLine := Nat.lt_of_le_of_lt h (by decide)
section
variable {α β : Type}
theorem chk_le {n : Nat} {d : D α} (h : n ≤ 1000000) : chk (n ≤ sizeLine) d = d := chk_pos (le_sz h)
theorem chk_lt {n : Nat} {d : D α} (h : n ≤ 1000000) : chk (n < sizeLine) d = d := chk_pos (lt_sz h)
theorem chk_true {d : D α} : chk True d = d := chk_pos trivial
theorem chk_and {p q : Prop} [Decidable p] [Decidable q] {d : D α} : chk (p ∧ q) d = chk p (chk q d) := by
  unfold chk
  by_cases h : p <;> by_cases h' : q <;> simp [h, h']
/-! comprehensions -/
theorem lcL_pure {f : α → T} {g : α → Option T} {body : T → D (Option T)} : ∀ (xs : List α) (acc : List T), (∀ x ∈ xs, body (f x) = .ok (g x)) → acc.length + xs.length ≤ 1000000 → lcL body (xs.map f) acc = .ok (.lst (acc ++ xs.filterMap g))
  | [], acc, _, _ => by simp [lcL]
  | x :: r, acc, h, hl => by
    rw [List.map_cons]
    unfold lcL
    rw [h x (List.mem_cons_self ..), D.ok_nox, D.ok_bind]
    rw [List.length_cons] at hl
    cases e : g x with
    | none =>
      dsimp only
      rw [lcL_pure r acc (fun y hy => h y (List.mem_cons_of_mem _ hy)) (by omega), List.filterMap_cons, e]
    | some y =>
      dsimp only
      rw [chk_lt (by omega), lcL_pure r (acc ++ [y]) (fun y hy => h y (List.mem_cons_of_mem _ hy)) (by simp; omega), List.filterMap_cons, e]
      simp
theorem ulc_pure {f : α → T} (g : α → Option T) {body : T → D (Option T)} {xs : List α} (h : ∀ x ∈ xs, body (f x) = .ok (g x)) (hl : xs.length ≤ 1000000) : lcD (xs.map f) body = .ok (.lst (xs.filterMap g)) := by
  have := lcL_pure xs [] h (by simpa using hl)
  unfold lcD; simpa using this
theorem ulc_map {f : α → T} (g : α → T) {body : T → D (Option T)} {xs : List α} (h : ∀ x ∈ xs, body (f x) = .ok (some (g x))) (hl : xs.length ≤ 1000000) : lcD (xs.map f) body = .ok (.lst (xs.map g)) := by
  rw [ulc_pure (fun x => some (g x)) h hl]
  congr 2
  induction xs with
  | nil => rfl
  | cons x r ih => simp only [List.length_cons] at hl; rw [List.filterMap_cons, List.map_cons, ih (fun y hy => h y (List.mem_cons_of_mem _ hy)) (by omega)]
/-- a comprehension with a test, over plain things -/
theorem ulc_filter {f : α → T} (p : α → Bool) (g : α → T) {body : T → D (Option T)} {xs : List α} (h : ∀ x ∈ xs, body (f x) = .ok (if p x = true then some (g x) else none)) (hl : xs.length ≤ 1000000) : lcD (xs.map f) body = .ok (.lst ((xs.filter p).map g)) := by
  rw [ulc_pure (fun x => if p x = true then some (g x) else none) h hl]
  congr 2
  clear h hl
  induction xs with
  | nil => rfl
  | cons x r ih =>
    rw [List.filterMap_cons, List.filter_cons]
    by_cases e : p x = true
    · simp [e, ih]
    · simp [e, ih]
/-! loops -/
theorem ufor_pure {γ : Type} {f : α → T} (step : α → γ → γ) (I : γ → Prop) {body : T → γ → D γ} : ∀ {xs : List α} {c : γ}, I c → (∀ x ∈ xs, ∀ c, I c → body (f x) c = .ok (step x c) ∧ I (step x c)) → forD body (xs.map f) c = .ok (xs.foldl (fun c x => step x c) c) ∧ I (xs.foldl (fun c x => step x c) c)
  | [], c, hc, _ => ⟨rfl, hc⟩
  | x :: r, c, hc, h => by
    obtain ⟨h1, h2⟩ := h x (List.mem_cons_self ..) c hc
    rw [List.map_cons]
    unfold forD
    rw [h1, D.ok_bind, List.foldl_cons]
    exact ufor_pure step I h2 fun y hy => h y (List.mem_cons_of_mem _ hy)
end
theorem rangeT_eq (lo : Int) (n : Nat) : rangeT lo n = (List.range n).map fun i => T.int (lo + (i : Nat)) := rfl
theorem rangeT0 (n : Nat) : rangeT 0 n = (List.range n).map fun i => T.int (i : Nat) := by
  rw [rangeT_eq]
  apply List.map_congr_left
  intro i _
  rw [Int.zero_add]
theorem blsOf_mapB {α : Type} (f : α → Bool) (xs : List α) : blsOf (xs.map fun x => T.bl (f x)) = some (xs.map f) := by
  have e : (xs.map fun x => T.bl (f x)) = (xs.map f).map T.bl := by rw [List.map_map]; rfl
  rw [e, blsOf_of]
theorem strsOf_mapS {α : Type} (f : α → Str) (xs : List α) : strsOf (xs.map fun x => T.str (f x)) = some (xs.map f) := by
  have e : (xs.map fun x => T.str (f x)) = (xs.map f).map T.str := by rw [List.map_map]; rfl
  rw [e, strsOf_of]
theorem intsOf_mapI {α : Type} (f : α → Int) (xs : List α) : intsOf (xs.map fun x => T.int (f x)) = some (xs.map f) := by
  have e : (xs.map fun x => T.int (f x)) = (xs.map f).map T.int := by rw [List.map_map]; rfl
  rw [e, intsOf_of]
/-! ### draws -/
/-- whatever is drawn, it ends within c draws and P holds of the answer -/
def Dr {α : Type} (d : D α) (c : Nat) (P : α → Prop) : Prop := ∀ (E : XE) n R, c ≤ n → (∀ a n', P a → n ≤ n' + c → R a n') → wp E d n R
section
variable {α β γ : Type}
theorem dr_ok {a : α} {P : α → Prop} (h : P a) {c : Nat} : Dr (.ok a) c P := fun E n R hc k => k a n h (by omega)
theorem dr_eq {d : D α} {a : α} {P : α → Prop} (e : d = .ok a) (h : P a) {c : Nat} : Dr d c P := e ▸ dr_ok h
theorem dr_mono {d : D α} {c c' : Nat} {P Q : α → Prop} (h : Dr d c P) (hc : c ≤ c') (k : ∀ a, P a → Q a) : Dr d c' Q := fun E n R hn kk => h E n R (by omega) fun a n' ha hn' => kk a n' (k a ha) (by omega)
theorem dr_bind {d : D α} {f : α → D β} {c1 c2 : Nat} {P : α → Prop} {Q : β → Prop} (h : Dr d c1 P) (k : ∀ a, P a → Dr (f a) c2 Q) : Dr (d.bind f) (c1 + c2) Q := fun E n R hn kk =>
  wp_bind.mpr (h E n _ (by omega) fun a n' ha hn' => k a ha E n' R (by omega) fun b n2 hb hn2 => kk b n2 hb (by omega))
theorem dr_bindN {d : D α} {f : α → D β} {c c1 c2 : Nat} {P : α → Prop} {Q : β → Prop} (h : Dr d c1 P) (k : ∀ a, P a → Dr (f a) c2 Q) (hc : c1 + c2 ≤ c) : Dr (d.bind f) c Q := dr_mono (dr_bind h k) hc fun _ q => q
theorem dr_draw {m : Nat} {k : Nat → D α} {c : Nat} {P : α → Prop} (h0 : 0 < m) (h1 : m < 1073741824) (h : ∀ r, r < m → Dr (k r) c P) : Dr (.draw m k) (c + 1) P := fun E n R hn kk =>
  ⟨⟨h0, h1, by omega⟩, fun r hr => h r hr E (n - 1) R (by omega) fun a n' ha hn' => kk a n' ha (by omega)⟩
theorem dr_next {m : Nat} (h0 : 0 < m) (h1 : m < 1073741824) : Dr (U_next .mach (.int (m : Nat))) 1 fun t => ∃ r : Nat, r < m ∧ t = .int (r : Nat) := by
  unfold U_next
  dsimp only
  rw [chk_pos ⟨by omega, by omega⟩]
  exact dr_draw (c := 0) (by omega) (by omega) fun r hr => dr_ok ⟨r, by omega, rfl⟩
theorem nox_wp {E : XE} {d : D α} : ∀ {n : Nat} {R : α → Nat → Prop}, wp noX d n R → wp E d.nox n R := by
  induction d with
  | ok a => exact fun h => h
  | bad => exact fun h => h
  | ex x => exact fun h => h.elim
  | draw m k ih => exact fun h => ⟨h.1, fun r hr => ih r (h.2 r hr)⟩
theorem dr_nox {d : D α} {c : Nat} {P : α → Prop} (h : Dr d c P) : Dr d.nox c P := fun E n R hn kk => nox_wp (h noX n R hn kk)
theorem dr_for {f : α → T} {body : T → γ → D γ} (I : γ → Prop) {k : Nat} : ∀ {xs : List α} {c : γ}, I c → (∀ x ∈ xs, ∀ c, I c → Dr (body (f x) c) k I) → Dr (forD body (xs.map f) c) (xs.length * k) I
  | [], c, hc, _ => dr_ok hc
  | x :: r, c, hc, h => by
    rw [List.map_cons]
    unfold forD
    refine dr_bindN (h x (List.mem_cons_self ..) c hc) (fun c' hc' => dr_for I hc' fun y hy => h y (List.mem_cons_of_mem _ hy)) ?_
    rw [List.length_cons, Nat.succ_mul]; omega
/-- a loop whose turns never return -/
theorem dr_forM {f : α → T} {body : T → γ → D (Out γ)} (I : γ → Prop) {k : Nat} : ∀ {xs : List α} {c : γ}, I c → (∀ x ∈ xs, ∀ c, I c → Dr (body (f x) c) k fun o => ∃ g, o = .next g ∧ I g) → Dr (forM body (xs.map f) c) (xs.length * k) fun o => ∃ g, o = .next g ∧ I g
  | [], c, hc, _ => dr_ok ⟨c, rfl, hc⟩
  | x :: r, c, hc, h => by
    rw [List.map_cons]
    unfold forM
    refine dr_bindN (h x (List.mem_cons_self ..) c hc) (fun o ⟨g, e, hg⟩ => by
      subst e
      exact dr_forM I hg fun y hy => h y (List.mem_cons_of_mem _ hy)) ?_
    rw [List.length_cons, Nat.succ_mul]; omega
/-- a comprehension of drawn things -/
theorem dr_lcL {f : α → T} {body : T → D (Option T)} (P : α → T → Prop) {k : Nat} : ∀ {xs : List α} {acc : List T}, acc.length + xs.length ≤ 1000000 → (∀ x ∈ xs, Dr (body (f x)) k fun o => ∃ y, o = some y ∧ P x y) → Dr (lcL body (xs.map f) acc) (xs.length * k) fun t => ∃ ys : List T, t = .lst (acc ++ ys) ∧ All2 P xs ys
  | [], acc, _, _ => dr_ok ⟨[], by simp, .nil⟩
  | x :: r, acc, hl, h => by
    rw [List.map_cons]
    unfold lcL
    rw [List.length_cons] at hl
    refine dr_bindN (dr_nox (h x (List.mem_cons_self ..))) (fun o ⟨y, e, hy⟩ => ?_) (c2 := r.length * k) ?_
    · subst e
      dsimp only
      rw [chk_lt (by omega)]
      refine dr_mono (dr_lcL P (by simp; omega) fun z hz => h z (List.mem_cons_of_mem _ hz)) (Nat.le_refl _) fun t ⟨ys, et, hys⟩ => ⟨y :: ys, by rw [et]; simp, .cons hy hys⟩
    · rw [List.length_cons, Nat.succ_mul]; omega
theorem dr_lc {f : α → T} {body : T → D (Option T)} (P : α → T → Prop) {k : Nat} {xs : List α} (hl : xs.length ≤ 1000000) (h : ∀ x ∈ xs, Dr (body (f x)) k fun o => ∃ y, o = some y ∧ P x y) : Dr (lcD (xs.map f) body) (xs.length * k) fun t => ∃ ys : List T, t = .lst ys ∧ All2 P xs ys := by
  have := dr_lcL P (xs := xs) (acc := []) (k := k) (by simpa using hl) h
  unfold lcD; simpa using this
end
end TL
namespace TL
open PySem L2
theorem isi_of {x : T} {c t : String} {b : Bool} (h : tyName x = some t) (h' : kitB t c = some b) : dIsi [x, .ty c] = .ok (.bl b) := by
  unfold dIsi
  dsimp only
  rw [h]
  dsimp only
  rw [h']
theorem ite_tt {α : Type} {a b : α} : (if true = true then a else b) = a := rfl
theorem ite_ff {α : Type} {a b : α} : (if false = true then a else b) = b := rfl
theorem dEqB_ss {f : Bool → Bool} {a b : Str} : dEqB f (.str a) (.str b) = .ok (.bl (f (decide (a = b)))) := rfl
theorem dEqB_ii {f : Bool → Bool} {a b : Int} : dEqB f (.int a) (.int b) = .ok (.bl (f (decide (a = b)))) := rfl
theorem dEqB_bb {f : Bool → Bool} {a b : Bool} : dEqB f (.bl a) (.bl b) = .ok (.bl (f (decide (a = b)))) := rfl
theorem dIsB_bb {f : Bool → Bool} {a b : Bool} : dIsB f (.bl a) (.bl b) = .ok (.bl (f (decide (a = b)))) := rfl
theorem dIsB_nn {f : Bool → Bool} : dIsB f .non .non = .ok (.bl (f true)) := rfl
theorem dIsB_bn {f : Bool → Bool} {a : Bool} : dIsB f (.bl a) .non = .ok (.bl (f false)) := rfl
theorem dIsB_in {f : Bool → Bool} {a : Int} : dIsB f (.int a) .non = .ok (.bl (f false)) := rfl
theorem dIsB_sn {f : Bool → Bool} {a : Str} : dIsB f (.str a) .non = .ok (.bl (f false)) := rfl
theorem dIsB_ln {f : Bool → Bool} {a : List T} : dIsB f (.lst a) .non = .ok (.bl (f false)) := rfl
theorem dIsB_tn {f : Bool → Bool} {a : List T} : dIsB f (.tup a) .non = .ok (.bl (f false)) := rfl
theorem dIsB_dn {f : Bool → Bool} {a : List (Key × T)} : dIsB f (.dct a) .non = .ok (.bl (f false)) := rfl
theorem dIsB_on {f : Bool → Bool} {n} {a} : dIsB f (.obj n a) .non = .ok (.bl (f false)) := rfl
theorem dInB_ss {f : Bool → Bool} {a b : Str} : dInB f (.str a) (.str b) = .ok (.bl (f (strIn a b))) := rfl
theorem dInB_nl {f : Bool → Bool} {ys : List T} : dInB f (.non) (.lst ys) = chk (flatT (.non) = true ∧ ys.all flatT = true) (.ok (.bl (f (inT (.non) ys)))) := rfl
theorem dInB_nt {f : Bool → Bool} {ys : List T} : dInB f (.non) (.tup ys) = chk (flatT (.non) = true ∧ ys.all flatT = true) (.ok (.bl (f (inT (.non) ys)))) := rfl
theorem dInB_bl {f : Bool → Bool} {a : Bool} {ys : List T} : dInB f (.bl a) (.lst ys) = chk (flatT (.bl a) = true ∧ ys.all flatT = true) (.ok (.bl (f (inT (.bl a) ys)))) := rfl
theorem dInB_bt {f : Bool → Bool} {a : Bool} {ys : List T} : dInB f (.bl a) (.tup ys) = chk (flatT (.bl a) = true ∧ ys.all flatT = true) (.ok (.bl (f (inT (.bl a) ys)))) := rfl
theorem dInB_il {f : Bool → Bool} {a : Int} {ys : List T} : dInB f (.int a) (.lst ys) = chk (flatT (.int a) = true ∧ ys.all flatT = true) (.ok (.bl (f (inT (.int a) ys)))) := rfl
theorem dInB_it {f : Bool → Bool} {a : Int} {ys : List T} : dInB f (.int a) (.tup ys) = chk (flatT (.int a) = true ∧ ys.all flatT = true) (.ok (.bl (f (inT (.int a) ys)))) := rfl
theorem dInB_sl {f : Bool → Bool} {a : Str} {ys : List T} : dInB f (.str a) (.lst ys) = chk (flatT (.str a) = true ∧ ys.all flatT = true) (.ok (.bl (f (inT (.str a) ys)))) := rfl
theorem dInB_st {f : Bool → Bool} {a : Str} {ys : List T} : dInB f (.str a) (.tup ys) = chk (flatT (.str a) = true ∧ ys.all flatT = true) (.ok (.bl (f (inT (.str a) ys)))) := rfl
theorem dDGet_s {kvs : List (Key × T)} {k : Str} : dDGet (.dct kvs) (.str k) = match valT kvs (Sum.inr k) with | some t => .ok t | none => .bad := rfl
theorem dDGet_i {kvs : List (Key × T)} {k : Int} : dDGet (.dct kvs) (.int k) = match valT kvs (Sum.inl k) with | some t => .ok t | none => .bad := rfl
theorem dDIn_s {f : Bool → Bool} {kvs : List (Key × T)} {k : Str} : dDIn f (.str k) (.dct kvs) = .ok (.bl (f (valT kvs (Sum.inr k)).isSome)) := rfl
theorem dDIn_i {f : Bool → Bool} {kvs : List (Key × T)} {k : Int} : dDIn f (.int k) (.dct kvs) = .ok (.bl (f (valT kvs (Sum.inl k)).isSome)) := rfl
theorem slD_s {z : Str} {lo hi : Option Int} : slD (.str z) lo hi = chk (z.length ≤ sizeLine) (.ok (.str (cutS z lo hi))) := rfl
theorem slD_l {z : List T} {lo hi : Option Int} : slD (.lst z) lo hi = .ok (.lst (cutT z lo hi)) := rfl
theorem slD_t {z : List T} {lo hi : Option Int} : slD (.tup z) lo hi = .ok (.tup (cutT z lo hi)) := rfl
theorem un2_t {α : Type} {a b : T} {k : T → T → D α} : un2 (.tup [a, b]) k = k a b := rfl
theorem un3_t {α : Type} {a b e : T} {k : T → T → T → D α} : un3 (.tup [a, b, e]) k = k a b e := rfl
theorem un4_t {α : Type} {a b e g : T} {k : T → T → T → T → D α} : un4 (.tup [a, b, e, g]) k = k a b e g := rfl
theorem un5_t {α : Type} {a b e g h : T} {k : T → T → T → T → T → D α} : un5 (.tup [a, b, e, g, h]) k = k a b e g h := rfl
theorem dun2_t {a b : T} : dun2 (.tup [a, b]) = .ok (a, b) := rfl
theorem dun3_t {a b e : T} : dun3 (.tup [a, b, e]) = .ok (a, b, e) := rfl
theorem dun4_t {a b e g : T} : dun4 (.tup [a, b, e, g]) = .ok (a, b, e, g) := rfl
theorem dun5_t {a b e g h : T} : dun5 (.tup [a, b, e, g, h]) = .ok (a, b, e, g, h) := rfl
theorem dApp_l {xs : List T} {y : T} : dApp (.lst xs) (.ok y) = chk (xs.length < sizeLine) (.ok (.lst (xs ++ [y]))) := rfl
theorem stD_ds {kvs : List (Key × T)} {k : Str} {r : T} : stD (.dct kvs) (.ok (.str k)) r = chk (kvs.length < sizeLine) (.ok (.dct (putT kvs (Sum.inr k) r))) := rfl
theorem stD_di {kvs : List (Key × T)} {k : Int} {r : T} : stD (.dct kvs) (.ok (.int k)) r = chk (kvs.length < sizeLine) (.ok (.dct (putT kvs (Sum.inl k) r))) := rfl
theorem stL_li {xs : List T} {j : Int} {r : T} : stL (.lst xs) (.ok (.int j)) r = match ixN xs.length j with | some m => .ok (.lst (xs.set m r)) | none => .bad := rfl
theorem enumD_l {xs : List T} : enumD [.lst xs] = .ok (enumT xs) := rfl
theorem enumD_s {z : Str} : enumD [.str z] = .ok (enumT (signs z)) := rfl
theorem dMS_s {p : Str → List T → D T} {s : Str} {a : D (List T)} : dMS p (.ok (.str s)) a = a.bind (p s) := rfl
theorem dML_l {p : List T → List T → D T} {s : List T} {a : D (List T)} : dML p (.ok (.lst s)) a = a.bind (p s) := rfl
theorem dAndV_b {k : Bool} {d : D T} : dAndV (.ok (.bl k)) d = if k = true then d else .ok (.bl false) := rfl
theorem dOrV_b {k : Bool} {d : D T} : dOrV (.ok (.bl k)) d = if k = true then .ok (.bl true) else d := rfl
theorem dIf_ok {α : Type} {k : Bool} {a b : D α} : dIf (.ok k) a b = if k = true then a else b := rfl
theorem dTAnd_ok {k : Bool} {b : D Bool} : dTAnd (.ok k) b = if k = true then b else .ok false := rfl
theorem dTOr_ok {k : Bool} {b : D Bool} : dTOr (.ok k) b = if k = true then .ok true else b := rfl
theorem dTNot_ok {k : Bool} : dTNot (.ok k) = .ok (!k) := rfl
theorem dChain_ok {p q : T → T → D T} {x y : T} {e : D T} : dChain p q (.ok x) (.ok y) e = (p x y).bind fun z => match z with | .bl k => if k = true then e.bind fun w => q y w else .ok (.bl false) | _ => .bad := rfl
theorem dFlat_ok {r : T} : dFlat (.ok r) = chk (flatT r = true) (.ok r) := rfl
theorem dGet1_s {kvs : List (Key × T)} {k : Str} : dGet1 (.ok (.dct kvs)) (.ok (.str k)) = .ok ((valT kvs (Sum.inr k)).getD .non) := rfl
theorem dGet2_s {kvs : List (Key × T)} {k : Str} {z : T} : dGet2 (.ok (.dct kvs)) (.ok (.str k)) (.ok z) = .ok ((valT kvs (Sum.inr k)).getD z) := rfl
theorem next_m {m : Int} : U_next .mach (.int m) = chk (0 < m ∧ m < 1073741824) (.draw m.toNat fun r => .ok (.int (r : Nat))) := rfl
theorem flat_n : flatT (.non) = true := rfl
theorem flat_b {a : Bool} : flatT (.bl a) = true := rfl
theorem flat_i {a : Int} : flatT (.int a) = true := rfl
theorem flat_s {a : Str} : flatT (.str a) = true := rfl
theorem asB_b {c : Bool} : asB (.bl c) = .ok c := rfl
theorem notD_b {c : Bool} : notD (.bl c) = .ok (.bl (!c)) := rfl
theorem itemsD_l {a : List T} : itemsD (.lst a) = .ok a := rfl
theorem itemsD_t {a : List T} : itemsD (.tup a) = .ok a := rfl
theorem itemsD_s {a : Str} : itemsD (.str a) = .ok (signs a) := rfl
theorem itemsD_r {a : List Int} : itemsD (.scr a) = .ok (a.map T.int) := rfl
theorem rng1_i {j : Int} : rng1 [.int j] = chk (-(2 ^ 62) ≤ j ∧ j < 2 ^ 62) (.ok (rangeT 0 j.toNat)) := rfl
theorem rng2_i {i j : Int} : rng2 [.int i, .int j] = chk (-(2 ^ 62) ≤ i ∧ i < 2 ^ 62 ∧ -(2 ^ 62) ≤ j ∧ j < 2 ^ 62) (.ok (rangeT i (j - i).toNat)) := rfl
theorem zipD_2 {x y : T} : zipD [x, y] = (itemsD x).bind fun us => (itemsD y).bind fun ws => .ok (zipT us ws) := rfl
theorem L0_0 {u : D T} : L0 u [] = u := rfl
theorem L1_1 {u : T → D T} {a : T} : L1 u [a] = u a := rfl
theorem L2_2 {u : T → T → D T} {a b : T} : L2_ u [a, b] = u a b := rfl
theorem L3_3 {u : T → T → T → D T} {a b e : T} : L3 u [a, b, e] = u a b e := rfl
theorem L4_4 {u : T → T → T → T → D T} {a b e g : T} : L4 u [a, b, e, g] = u a b e g := rfl
theorem L5_5 {u : T → T → T → T → T → D T} {a b e g h : T} : L5 u [a, b, e, g, h] = u a b e g h := rfl
theorem dAdd_ii {i j : Int} : dAdd (.int i) (.int j) = .ok (.int (i + j)) := rfl
theorem dAdd_ss {a b : Str} : dAdd (.str a) (.str b) = chk (a.length + b.length ≤ sizeLine) (.ok (.str (a ++ b))) := rfl
theorem dAdd_ll {a b : List T} : dAdd (.lst a) (.lst b) = chk (a.length + b.length ≤ sizeLine) (.ok (.lst (a ++ b))) := rfl
theorem dAdd_tt {a b : List T} : dAdd (.tup a) (.tup b) = chk (a.length + b.length ≤ sizeLine) (.ok (.tup (a ++ b))) := rfl
theorem dIAdd_ii {i j : Int} : dIAdd (.int i) (.int j) = .ok (.int (i + j)) := rfl
theorem dIAdd_ss {a b : Str} : dIAdd (.str a) (.str b) = chk (a.length + b.length ≤ sizeLine) (.ok (.str (a ++ b))) := rfl
theorem dCat_ll {a b : List T} : dCat (.lst a) (.lst b) = chk (a.length + b.length ≤ sizeLine) (.ok (.lst (a ++ b))) := rfl
theorem dInt_ii {g : Int → Int → T} {i j : Int} : dInt g (.int i) (.int j) = .ok (g i j) := rfl
theorem dIntC_ii {C : Int → Int → Prop} [∀ i j, Decidable (C i j)] {g : Int → Int → T} {i j : Int} : dIntC C g (.int i) (.int j) = chk (C i j) (.ok (g i j)) := rfl
theorem dOrd_ii {p : Int → Int → Bool} {q : List Nat → List Nat → Bool} {i j : Int} : dOrd p q (.int i) (.int j) = .ok (.bl (p i j)) := rfl
theorem dOrd_ss {p : Int → Int → Bool} {q : List Nat → List Nat → Bool} {i j : Str} : dOrd p q (.str i) (.str j) = .ok (.bl (q i.cps.toList j.cps.toList)) := rfl
theorem dMul_ii {i j : Int} : dMul (.int i) (.int j) = chk (CMul i j) (.ok (.int (i * j))) := rfl
theorem dMul_si {z : Str} {i : Int} : dMul (.str z) (.int i) = chk (0 ≤ i ∧ i ≤ 1000 ∧ z.length ≤ 1000) (.ok (.str (strRep z i))) := rfl
theorem dMul_li {z : List T} {i : Int} : dMul (.lst z) (.int i) = chk (0 ≤ i ∧ i ≤ 100000 ∧ z.length ≤ 100) (.ok (.lst (List.replicate i.toNat z).flatten)) := rfl
theorem dIx_l {z : List T} {i : Int} : dIx (.lst z) (.int i) = match L2.atI z i with | some t => .ok t | none => .bad := rfl
theorem dIx_t {z : List T} {i : Int} : dIx (.tup z) (.int i) = match L2.atI z i with | some t => .ok t | none => .bad := rfl
theorem dIx_s {z : Str} {i : Int} : dIx (.str z) (.int i) = chk (z.length ≤ sizeLine) (match L2.atI z.cps.toList i with | some c => .ok (.str ⟨#[c]⟩) | none => .bad) := rfl
theorem dIx_r {z : List Int} {i : Int} : dIx (.scr z) (.int i) = match L2.atI z i with | some t => .ok (.int t) | none => .bad := rfl
theorem dLen_s {x : Str} : dLen [.str x] = chk (x.length ≤ sizeLine) (.ok (.int x.length)) := rfl
theorem dLen_l {x : List T} : dLen [.lst x] = .ok (.int x.length) := rfl
theorem dLen_t {x : List T} : dLen [.tup x] = .ok (.int x.length) := rfl
theorem dLen_r {x : List Int} : dLen [.scr x] = .ok (.int x.length) := rfl
theorem dIntX_i {i : Int} : dIntX [.int i] = .ok (.int i) := rfl
theorem dIntX_b {i : Bool} : dIntX [.bl i] = .ok (.int (if i = true then 1 else 0)) := rfl
theorem dStr1_i {i : Int} : dStr1 [.int i] = chk (i.natAbs.log2 < 1920) (.ok (.str (toString i))) := rfl
theorem dAllAny_l {g : List Bool → Bool} {ts : List T} : dAllAny g [.lst ts] = match blsOf ts with | some bs => .ok (.bl (g bs)) | none => .bad := rfl
theorem dMM_ii {g : Int → Int → Int} {i j : Int} : dMM g [.int i, .int j] = .ok (.int (g i j)) := rfl
theorem dListOf_l {ts : List T} : dListOf [.lst ts] = .ok (.lst ts) := rfl
theorem dListOf_t {ts : List T} : dListOf [.tup ts] = .ok (.lst ts) := rfl
theorem dListOf_r {ts : List Int} : dListOf [.scr ts] = .ok (.lst (ts.map T.int)) := rfl
theorem dTupOf_l {ts : List T} : dTupOf [.lst ts] = .ok (.tup ts) := rfl
theorem dTupOf_t {ts : List T} : dTupOf [.tup ts] = .ok (.tup ts) := rfl
theorem sSplit_s {a b : Str} : sSplit a [.str b] = chk ((b.length == 0) = false ∧ a.length + 2 ≤ sizeLine) (.ok (.lst ((Txt.split a b).map T.str))) := rfl
theorem sJoin_l {a : Str} {ts : List T} : sJoin a [.lst ts] = match strsOf ts with | some ys => chk ((ys.map (·.length)).sum + ys.length * a.length ≤ 16777216) (.ok (.str (Txt.join a ys))) | none => .bad := rfl
theorem s1B_s {g : Str → Str → Bool} {a b : Str} : s1B g a [.str b] = .ok (.bl (g a b)) := rfl
theorem s1I_s {g : Str → Str → Int} {a b : Str} : s1I g a [.str b] = .ok (.int (g a b)) := rfl
theorem sIdx_s {a b : Str} : sIdx a [.str b] = match Builtin.Str.occurrences a b 0 a.length 1 with | i :: _ => .ok (.int (i : Nat)) | [] => .bad := rfl
theorem sPart_s {a b : Str} : sPart a [.str b] = chk ((b.length == 0) = false ∧ a.length ≤ sizeLine) (.ok (.tup [.str (Txt.partition a b).1, .str (Txt.partition a b).2.1, .str (Txt.partition a b).2.2])) := rfl
theorem lIdx_1 {xs : List T} {y : T} : lIdx xs [y] = chk (flatT y = true ∧ xs.all flatT = true) (match placeT y xs with | some j => .ok (.int (j : Nat)) | none => .bad) := rfl
theorem partD_i {i : Int} : partD (.int i) = .ok (some i) := rfl
theorem dBin_i {a : Int} : dBin (.int a) = chk (0 ≤ a ∧ (binText a).length ≤ sizeLine) (.ok (.str (binText a))) := rfl
theorem dNeg_i {a : Int} : dNeg (.int a) = .ok (.int (-a)) := rfl
theorem dInv_i {a : Int} : dInv (.int a) = .ok (.int (Builtin.bitNot a)) := rfl
theorem dRev_l {a : List T} : dRev (.lst a) = .ok (.lst a.reverse) := rfl
theorem finM_n {γ : Type} {k : γ → D T} {g : γ} : finM k (.next g) = k g := rfl
theorem finM_r {γ : Type} {k : γ → D T} {t : T} : finM k (.ret t) = .ok t := rfl
theorem seqM_n {γ δ : Type} {k : γ → D (Out δ)} {g : γ} : seqM k (.next g) = k g := rfl
theorem seqM_r {γ δ : Type} {k : γ → D (Out δ)} {t : T} : seqM k (.ret t) = .ok (.ret t) := rfl
theorem pr2_2 {x y : T} : pr2 [x, y] = .ok (x, y) := rfl
theorem pr3_3 {x y z : T} : pr3 [x, y, z] = .ok (x, y, z) := rfl
theorem dSortI_l {ts : List T} : dSortI [.lst ts] = match intsOf ts with | some ns => .ok (.lst ((sortI ns).map T.int)) | none => .bad := rfl
theorem dSortX_n : dSortX [.lst []] = .ok (.lst []) := rfl
theorem listRng_i {b : Int} : listRng (.int b) = chk (RgOk 0 b) (.ok (.lst (rgT 0 b))) := rfl
theorem truD_l {a : List T} : truD (.lst a) = .ok (!a.isEmpty) := rfl
theorem truD_b {a : Bool} : truD (.bl a) = .ok a := rfl
theorem truD_n : truD .non = .ok false := rfl
theorem truD_i {a : Int} : truD (.int a) = .ok (a != 0) := rfl
theorem truD_t {a : List T} : truD (.tup a) = .ok (!a.isEmpty) := rfl
theorem forD_nil {γ : Type} {b : T → γ → D γ} {g : γ} : forD b [] g = .ok g := rfl
theorem forM_nil {γ : Type} {b : T → γ → D (Out γ)} {g : γ} : forM b [] g = .ok (.next g) := rfl
theorem lcD_nil {b : T → D (Option T)} : lcD [] b = .ok (.lst []) := rfl
theorem dTup_ {xs : List T} : dTup xs = chk (xs.length ≤ sizeLine) (.ok (.tup xs)) := rfl
theorem dLst_ {xs : List T} : dLst xs = chk (xs.length ≤ sizeLine) (.ok (.lst xs)) := rfl
theorem isi_NoneType_int : dIsi [.non, .ty "int"] = .ok (.bl false) := isi_of (by rfl) (by decide +kernel)
theorem isi_NoneType_bool : dIsi [.non, .ty "bool"] = .ok (.bl false) := isi_of (by rfl) (by decide +kernel)
theorem isi_NoneType_str : dIsi [.non, .ty "str"] = .ok (.bl false) := isi_of (by rfl) (by decide +kernel)
theorem isi_NoneType_tuple : dIsi [.non, .ty "tuple"] = .ok (.bl false) := isi_of (by rfl) (by decide +kernel)
theorem isi_NoneType_list : dIsi [.non, .ty "list"] = .ok (.bl false) := isi_of (by rfl) (by decide +kernel)
theorem isi_NoneType_dict : dIsi [.non, .ty "dict"] = .ok (.bl false) := isi_of (by rfl) (by decide +kernel)
theorem isi_bool_int {a : Bool} : dIsi [.bl a, .ty "int"] = .ok (.bl true) := isi_of (by rfl) (by decide +kernel)
theorem isi_bool_bool {a : Bool} : dIsi [.bl a, .ty "bool"] = .ok (.bl true) := isi_of (by rfl) (by decide +kernel)
theorem isi_bool_str {a : Bool} : dIsi [.bl a, .ty "str"] = .ok (.bl false) := isi_of (by rfl) (by decide +kernel)
theorem isi_bool_tuple {a : Bool} : dIsi [.bl a, .ty "tuple"] = .ok (.bl false) := isi_of (by rfl) (by decide +kernel)
theorem isi_bool_list {a : Bool} : dIsi [.bl a, .ty "list"] = .ok (.bl false) := isi_of (by rfl) (by decide +kernel)
theorem isi_bool_dict {a : Bool} : dIsi [.bl a, .ty "dict"] = .ok (.bl false) := isi_of (by rfl) (by decide +kernel)
theorem isi_int_int {a : Int} : dIsi [.int a, .ty "int"] = .ok (.bl true) := isi_of (by rfl) (by decide +kernel)
theorem isi_int_bool {a : Int} : dIsi [.int a, .ty "bool"] = .ok (.bl false) := isi_of (by rfl) (by decide +kernel)
theorem isi_int_str {a : Int} : dIsi [.int a, .ty "str"] = .ok (.bl false) := isi_of (by rfl) (by decide +kernel)
theorem isi_int_tuple {a : Int} : dIsi [.int a, .ty "tuple"] = .ok (.bl false) := isi_of (by rfl) (by decide +kernel)
theorem isi_int_list {a : Int} : dIsi [.int a, .ty "list"] = .ok (.bl false) := isi_of (by rfl) (by decide +kernel)
theorem isi_int_dict {a : Int} : dIsi [.int a, .ty "dict"] = .ok (.bl false) := isi_of (by rfl) (by decide +kernel)
theorem isi_str_int {a : Str} : dIsi [.str a, .ty "int"] = .ok (.bl false) := isi_of (by rfl) (by decide +kernel)
theorem isi_str_bool {a : Str} : dIsi [.str a, .ty "bool"] = .ok (.bl false) := isi_of (by rfl) (by decide +kernel)
theorem isi_str_str {a : Str} : dIsi [.str a, .ty "str"] = .ok (.bl true) := isi_of (by rfl) (by decide +kernel)
theorem isi_str_tuple {a : Str} : dIsi [.str a, .ty "tuple"] = .ok (.bl false) := isi_of (by rfl) (by decide +kernel)
theorem isi_str_list {a : Str} : dIsi [.str a, .ty "list"] = .ok (.bl false) := isi_of (by rfl) (by decide +kernel)
theorem isi_str_dict {a : Str} : dIsi [.str a, .ty "dict"] = .ok (.bl false) := isi_of (by rfl) (by decide +kernel)
theorem isi_list_int {a : List T} : dIsi [.lst a, .ty "int"] = .ok (.bl false) := isi_of (by rfl) (by decide +kernel)
theorem isi_list_bool {a : List T} : dIsi [.lst a, .ty "bool"] = .ok (.bl false) := isi_of (by rfl) (by decide +kernel)
theorem isi_list_str {a : List T} : dIsi [.lst a, .ty "str"] = .ok (.bl false) := isi_of (by rfl) (by decide +kernel)
theorem isi_list_tuple {a : List T} : dIsi [.lst a, .ty "tuple"] = .ok (.bl false) := isi_of (by rfl) (by decide +kernel)
theorem isi_list_list {a : List T} : dIsi [.lst a, .ty "list"] = .ok (.bl true) := isi_of (by rfl) (by decide +kernel)
theorem isi_list_dict {a : List T} : dIsi [.lst a, .ty "dict"] = .ok (.bl false) := isi_of (by rfl) (by decide +kernel)
theorem isi_tuple_int {a : List T} : dIsi [.tup a, .ty "int"] = .ok (.bl false) := isi_of (by rfl) (by decide +kernel)
theorem isi_tuple_bool {a : List T} : dIsi [.tup a, .ty "bool"] = .ok (.bl false) := isi_of (by rfl) (by decide +kernel)
theorem isi_tuple_str {a : List T} : dIsi [.tup a, .ty "str"] = .ok (.bl false) := isi_of (by rfl) (by decide +kernel)
theorem isi_tuple_tuple {a : List T} : dIsi [.tup a, .ty "tuple"] = .ok (.bl true) := isi_of (by rfl) (by decide +kernel)
theorem isi_tuple_list {a : List T} : dIsi [.tup a, .ty "list"] = .ok (.bl false) := isi_of (by rfl) (by decide +kernel)
theorem isi_tuple_dict {a : List T} : dIsi [.tup a, .ty "dict"] = .ok (.bl false) := isi_of (by rfl) (by decide +kernel)
theorem isi_dict_int {a : List (Key × T)} : dIsi [.dct a, .ty "int"] = .ok (.bl false) := isi_of (by rfl) (by decide +kernel)
theorem isi_dict_bool {a : List (Key × T)} : dIsi [.dct a, .ty "bool"] = .ok (.bl false) := isi_of (by rfl) (by decide +kernel)
theorem isi_dict_str {a : List (Key × T)} : dIsi [.dct a, .ty "str"] = .ok (.bl false) := isi_of (by rfl) (by decide +kernel)
theorem isi_dict_tuple {a : List (Key × T)} : dIsi [.dct a, .ty "tuple"] = .ok (.bl false) := isi_of (by rfl) (by decide +kernel)
theorem isi_dict_list {a : List (Key × T)} : dIsi [.dct a, .ty "list"] = .ok (.bl false) := isi_of (by rfl) (by decide +kernel)
theorem isi_dict_dict {a : List (Key × T)} : dIsi [.dct a, .ty "dict"] = .ok (.bl true) := isi_of (by rfl) (by decide +kernel)
end TL
/-! equality of trees that are data -/
namespace TL
open PySem L2
mutual
def teq : T → T → Bool
  | .non, y => match y with | .non => true | _ => false
  | .bl a, y => match y with | .bl b => a == b | .int j => (if a then 1 else 0) == j | _ => false
  | .int i, y => match y with | .bl b => i == (if b then 1 else 0) | .int j => i == j | _ => false
  | .str a, y => match y with | .str b => a == b | _ => false
  | .lst xs, y => match y with | .lst ys => teqs xs ys | _ => false
  | .tup xs, y => match y with | .tup ys => teqs xs ys | _ => false
  | _, _ => false
def teqs : List T → List T → Bool
  | [], ys => match ys with | [] => true | _ => false
  | x :: xs, ys => match ys with | y :: r => teq x y && teqs xs r | [] => false
end
def shp : Nat → T → Bool
  | _, .non => true
  | _, .bl _ => true
  | _, .int _ => true
  | _, .str x => PyData.canLay0 (.str x)
  | k + 1, .lst xs => xs.all (shp k)
  | k + 1, .tup xs => xs.all (shp k)
  | _, _ => false
theorem shp_dats {k : Nat} (ih : ∀ t, shp k t = true → ∃ d, T.dat t = some d ∧ d.canLay0 = true ∧ d.depth ≤ k) : ∀ xs : List T, xs.all (shp k) = true → ∃ ds, T.dats xs = some ds ∧ PyData.canLayAll0 ds = true ∧ PyData.depthAll ds ≤ k
  | [], _ => ⟨[], rfl, rfl, Nat.zero_le _⟩
  | x :: xs, h => by
    rw [List.all_cons, Bool.and_eq_true] at h
    obtain ⟨d, e1, e2, e3⟩ := ih x h.1
    obtain ⟨ds, f1, f2, f3⟩ := shp_dats ih xs h.2
    refine ⟨d :: ds, by unfold T.dats; rw [e1, f1], by simp only [PyData.canLayAll0]; rw [e2, f2]; rfl, ?_⟩
    simp only [PyData.depthAll]
    omega
theorem shp_dat : ∀ (k : Nat) (t : T), shp k t = true → ∃ d, T.dat t = some d ∧ d.canLay0 = true ∧ d.depth ≤ k
  | k, .non, _ => ⟨_, rfl, rfl, Nat.zero_le _⟩
  | k, .bl _, _ => ⟨_, rfl, rfl, Nat.zero_le _⟩
  | k, .int _, _ => ⟨_, rfl, rfl, Nat.zero_le _⟩
  | k, .str x, h => ⟨_, rfl, by cases k <;> exact h, Nat.zero_le _⟩
  | k + 1, .lst xs, h => by
    obtain ⟨ds, f1, f2, f3⟩ := shp_dats (shp_dat k) xs h
    exact ⟨.list ds, by unfold T.dat; rw [f1]; rfl, f2, by simp only [PyData.depth]; omega⟩
  | k + 1, .tup xs, h => by
    obtain ⟨ds, f1, f2, f3⟩ := shp_dats (shp_dat k) xs h
    exact ⟨.tuple ds, by unfold T.dat; rw [f1]; rfl, f2, by simp only [PyData.depth]; omega⟩
  | 0, .lst xs, h => by cases h
  | 0, .tup xs, h => by cases h
  | 0, .ty _, h => by cases h
  | 0, .mach, h => by cases h
  | 0, .scr _, h => by cases h
  | 0, .cst _, h => by cases h
  | 0, .dct _, h => by cases h
  | 0, .obj _ _, h => by cases h
  | 0, .exc _ _, h => by cases h
  | 0, .cls _, h => by cases h
  | _ + 1, .ty _, h => by cases h
  | _ + 1, .mach, h => by cases h
  | _ + 1, .scr _, h => by cases h
  | _ + 1, .cst _, h => by cases h
  | _ + 1, .dct _, h => by cases h
  | _ + 1, .obj _ _, h => by cases h
  | _ + 1, .exc _ _, h => by cases h
  | _ + 1, .cls _, h => by cases h
theorem shp_up : ∀ {k j : Nat} {t : T}, k ≤ j → shp k t = true → shp j t = true
  | k, j, .non, _, _ => by cases j <;> rfl
  | k, j, .bl _, _, _ => by cases j <;> rfl
  | k, j, .int _, _, _ => by cases j <;> rfl
  | k, j, .str x, _, h => by cases j <;> cases k <;> exact h
  | k + 1, j + 1, .lst xs, hk, h => by
    show xs.all (shp j) = true
    rw [List.all_eq_true]
    exact fun x hx => shp_up (Nat.le_of_succ_le_succ hk) (List.all_eq_true.mp (show xs.all (shp k) = true from h) x hx)
  | k + 1, j + 1, .tup xs, hk, h => by
    show xs.all (shp j) = true
    rw [List.all_eq_true]
    exact fun x hx => shp_up (Nat.le_of_succ_le_succ hk) (List.all_eq_true.mp (show xs.all (shp k) = true from h) x hx)
  | 0, _, .lst xs, _, h => by cases h
  | 0, _, .tup xs, _, h => by cases h
  | k + 1, 0, .lst _, hk, _ => absurd hk (Nat.not_succ_le_zero k)
  | k + 1, 0, .tup _, hk, _ => absurd hk (Nat.not_succ_le_zero k)
  | 0, _, .ty _, _, h => by cases h
  | 0, _, .mach, _, h => by cases h
  | 0, _, .scr _, _, h => by cases h
  | 0, _, .cst _, _, h => by cases h
  | 0, _, .dct _, _, h => by cases h
  | 0, _, .obj _ _, _, h => by cases h
  | 0, _, .exc _ _, _, h => by cases h
  | 0, _, .cls _, _, h => by cases h
  | _ + 1, _, .ty _, _, h => by cases h
  | _ + 1, _, .mach, _, h => by cases h
  | _ + 1, _, .scr _, _, h => by cases h
  | _ + 1, _, .cst _, _, h => by cases h
  | _ + 1, _, .dct _, _, h => by cases h
  | _ + 1, _, .obj _ _, _, h => by cases h
  | _ + 1, _, .exc _ _, _, h => by cases h
  | _ + 1, _, .cls _, _, h => by cases h
mutual
theorem eqv_teq : ∀ (x y : T) (d e : PyData), T.dat x = some d → T.dat y = some e → PyData.eqv d e = teq x y
  | .non, y, d, e, hx, hy => by
    cases hx
    cases y <;> first | (cases hy; simp only [PyData.eqv, teq]; done) | (simp only [T.dat] at hy; obtain ⟨ds, q1, rfl⟩ := Option.map_eq_some_iff.mp hy; simp only [PyData.eqv, teq]) | (simp only [T.dat] at hy; cases hy)
  | .bl b, y, d, e, hx, hy => by
    cases hx
    cases y <;> first | (cases hy; simp only [PyData.eqv, teq]; done) | (simp only [T.dat] at hy; obtain ⟨ds, q1, rfl⟩ := Option.map_eq_some_iff.mp hy; simp only [PyData.eqv, teq]) | (simp only [T.dat] at hy; cases hy)
  | .int b, y, d, e, hx, hy => by
    cases hx
    cases y <;> first | (cases hy; simp only [PyData.eqv, teq]; done) | (simp only [T.dat] at hy; obtain ⟨ds, q1, rfl⟩ := Option.map_eq_some_iff.mp hy; simp only [PyData.eqv, teq]) | (simp only [T.dat] at hy; cases hy)
  | .str b, y, d, e, hx, hy => by
    cases hx
    cases y <;> first | (cases hy; simp only [PyData.eqv, teq]; done) | (simp only [T.dat] at hy; obtain ⟨ds, q1, rfl⟩ := Option.map_eq_some_iff.mp hy; simp only [PyData.eqv, teq]) | (simp only [T.dat] at hy; cases hy)
  | .lst xs, y, d, e, hx, hy => by
    simp only [T.dat] at hx
    obtain ⟨ds, q, rfl⟩ := Option.map_eq_some_iff.mp hx
    cases y with
    | lst ys =>
      simp only [T.dat] at hy
      obtain ⟨es, q1, rfl⟩ := Option.map_eq_some_iff.mp hy
      simp only [PyData.eqv, teq]
      exact eqv_teqs xs ys ds es q q1
    | tup ys => simp only [T.dat] at hy; obtain ⟨es, q1, rfl⟩ := Option.map_eq_some_iff.mp hy; simp only [PyData.eqv, teq]
    | _ => first | (cases hy; simp only [PyData.eqv, teq]; done) | (simp only [T.dat] at hy; cases hy)
  | .tup xs, y, d, e, hx, hy => by
    simp only [T.dat] at hx
    obtain ⟨ds, q, rfl⟩ := Option.map_eq_some_iff.mp hx
    cases y with
    | tup ys =>
      simp only [T.dat] at hy
      obtain ⟨es, q1, rfl⟩ := Option.map_eq_some_iff.mp hy
      simp only [PyData.eqv, teq]
      exact eqv_teqs xs ys ds es q q1
    | lst ys => simp only [T.dat] at hy; obtain ⟨es, q1, rfl⟩ := Option.map_eq_some_iff.mp hy; simp only [PyData.eqv, teq]
    | _ => first | (cases hy; simp only [PyData.eqv, teq]; done) | (simp only [T.dat] at hy; cases hy)
  | .ty b, v, d, _, e, _ => by simp only [T.dat] at e; cases e
  | .mach, v, d, _, e, _ => by simp only [T.dat] at e; cases e
  | .cst b, v, d, _, e, _ => by simp only [T.dat] at e; cases e
  | .scr b, v, d, _, e, _ => by simp only [T.dat] at e; cases e
  | .dct b, v, d, _, e, _ => by simp only [T.dat] at e; cases e
  | .obj b c, v, d, _, e, _ => by simp only [T.dat] at e; cases e
theorem eqv_teqs : ∀ (xs ys : List T) (ds es : List PyData), T.dats xs = some ds → T.dats ys = some es → PyData.eqvAll ds es = teqs xs ys
  | [], ys, ds, es, hx, hy => by
    simp only [T.dats] at hx; cases hx
    cases ys with
    | nil => simp only [T.dats] at hy; cases hy; simp only [PyData.eqvAll, teqs]
    | cons y r =>
      simp only [T.dats] at hy
      split at hy
      · cases hy; simp only [PyData.eqvAll, teqs]
      · cases hy
  | x :: xs, ys, ds, es, hx, hy => by
    simp only [T.dats] at hx
    split at hx
    · rename_i d ds' e1 e2
      cases hx
      cases ys with
      | nil => simp only [T.dats] at hy; cases hy; simp only [PyData.eqvAll, teqs]
      | cons y r =>
        simp only [T.dats] at hy
        split at hy
        · rename_i e es' f1 f2
          cases hy
          simp only [PyData.eqvAll, teqs]
          rw [eqv_teq x y d e e1 f1, eqv_teqs xs r ds' es' e2 f2]
        · cases hy
    · cases hx
end
/-- equality of data -/
theorem dEqB_eq {f : Bool → Bool} {x y : T} (hx : shp 64 x = true) (hy : shp 64 y = true) : dEqB f x y = .ok (.bl (f (teq x y))) := by
  obtain ⟨d, d1, d2, d3⟩ := shp_dat 64 x hx
  obtain ⟨e, e1, e2, e3⟩ := shp_dat 64 y hy
  unfold dEqB
  split
  · simp only [teq]; rfl
  · simp only [teq]; rfl
  · rename_i a b; simp only [teq]; cases a <;> cases b <;> rfl
  · rw [d1, e1]
    dsimp only
    rw [chk_pos ⟨by unfold SeqAt.shaped; rw [d2, decide_eq_true d3]; rfl, by unfold SeqAt.shaped; rw [e2, decide_eq_true e3]; rfl⟩, eqv_teq x y d e d1 e1]
mutual
theorem teq_refl : ∀ (k : Nat) (x : T), shp k x = true → teq x x = true
  | k, .non, _ => rfl
  | k, .bl b, _ => by simp only [teq]; cases b <;> rfl
  | k, .int b, _ => by simp [teq]
  | k, .str b, _ => by simp [teq]
  | k + 1, .lst xs, h => by simp only [teq]; exact teqs_refl k xs h
  | k + 1, .tup xs, h => by simp only [teq]; exact teqs_refl k xs h
  | 0, .lst xs, h => by cases h
  | 0, .tup xs, h => by cases h
  | 0, .ty _, h => by cases h
  | 0, .mach, h => by cases h
  | 0, .scr _, h => by cases h
  | 0, .cst _, h => by cases h
  | 0, .dct _, h => by cases h
  | 0, .obj _ _, h => by cases h
  | 0, .exc _ _, h => by cases h
  | 0, .cls _, h => by cases h
  | _ + 1, .ty _, h => by cases h
  | _ + 1, .mach, h => by cases h
  | _ + 1, .scr _, h => by cases h
  | _ + 1, .cst _, h => by cases h
  | _ + 1, .dct _, h => by cases h
  | _ + 1, .obj _ _, h => by cases h
  | _ + 1, .exc _ _, h => by cases h
  | _ + 1, .cls _, h => by cases h
theorem teqs_refl : ∀ (k : Nat) (xs : List T), xs.all (shp k) = true → teqs xs xs = true
  | k, [], _ => rfl
  | k, x :: xs, h => by
    rw [List.all_cons, Bool.and_eq_true] at h
    simp only [teqs]
    rw [teq_refl k x h.1, teqs_refl k xs h.2]; rfl
end
/-- trees without truths -/
def nob : Nat → T → Bool
  | _, .bl _ => false
  | k + 1, .lst xs => xs.all (nob k)
  | k + 1, .tup xs => xs.all (nob k)
  | 0, .lst _ => false
  | 0, .tup _ => false
  | _, _ => true
theorem teqs_of {k : Nat} (ih : ∀ x y, nob k x = true → nob k y = true → teq x y = true → x = y) : ∀ (xs ys : List T), xs.all (nob k) = true → ys.all (nob k) = true → teqs xs ys = true → xs = ys
  | [], [], _, _, _ => rfl
  | [], y :: ys, _, _, h => by simp [teqs] at h
  | x :: xs, [], _, _, h => by simp [teqs] at h
  | x :: xs, y :: ys, hx, hy, h => by
    rw [List.all_cons, Bool.and_eq_true] at hx hy
    simp only [teqs, Bool.and_eq_true] at h
    rw [ih x y hx.1 hy.1 h.1, teqs_of ih xs ys hx.2 hy.2 h.2]
theorem teq_of : ∀ (k : Nat) (x y : T), nob k x = true → nob k y = true → teq x y = true → x = y
  | k, .non, y, hx, hy, h => by cases y <;> first | rfl | (simp [teq] at h)
  | k, .bl b, y, hx, hy, h => by cases k <;> cases hx
  | k, .int b, y, hx, hy, h => by
    cases y with
    | int j => simp [teq] at h; rw [h]
    | bl j => cases k <;> cases hy
    | _ => simp [teq] at h
  | k, .str b, y, hx, hy, h => by cases y <;> first | (simp [teq] at h; rw [h]; done) | (simp [teq] at h)
  | 0, .lst xs, y, hx, hy, h => by cases hx
  | 0, .tup xs, y, hx, hy, h => by cases hx
  | k + 1, .lst xs, y, hx, hy, h => by
    cases y with
    | lst ys => simp only [teq] at h; rw [teqs_of (teq_of k) xs ys hx hy h]
    | _ => simp [teq] at h
  | k + 1, .tup xs, y, hx, hy, h => by
    cases y with
    | tup ys => simp only [teq] at h; rw [teqs_of (teq_of k) xs ys hx hy h]
    | _ => simp [teq] at h
  | k, .ty b, y, hx, hy, h => by simp [teq] at h
  | k, .mach, y, hx, hy, h => by simp [teq] at h
  | k, .cst b, y, hx, hy, h => by simp [teq] at h
  | k, .scr b, y, hx, hy, h => by simp [teq] at h
  | k, .dct b, y, hx, hy, h => by simp [teq] at h
  | k, .obj b c, y, hx, hy, h => by simp [teq] at h
theorem teq_dec {k j : Nat} {x y : T} (h1 : shp j x = true) (h3 : nob k x = true) (h4 : nob k y = true) : teq x y = true ↔ x = y :=
  ⟨teq_of k x y h3 h4, fun e => e ▸ teq_refl j x h1⟩
theorem teq_nil (xs : List T) : teq (.lst xs) (.lst []) = xs.isEmpty := by cases xs <;> simp [teq, teqs]
theorem teq_nilT (xs : List T) : teq (.tup xs) (.tup []) = xs.isEmpty := by cases xs <;> simp [teq, teqs]
end TL
namespace TL
open PySem L2
/-- a loop whose states are told by b -/
theorem ufor_abs {α β γ : Type} {f : α → T} (r : β → γ) (step : α → β → β) (I : β → Prop) {body : T → γ → D γ} : ∀ {xs : List α} {b : β}, I b → (∀ x ∈ xs, ∀ b, I b → body (f x) (r b) = .ok (r (step x b)) ∧ I (step x b)) → forD body (xs.map f) (r b) = .ok (r (xs.foldl (fun c x => step x c) b)) ∧ I (xs.foldl (fun c x => step x c) b)
  | [], c, hc, _ => ⟨rfl, hc⟩
  | x :: l, c, hc, h => by
    obtain ⟨h1, h2⟩ := h x (List.mem_cons_self ..) c hc
    rw [List.map_cons]
    unfold forD
    rw [h1, D.ok_bind, List.foldl_cons]
    exact ufor_abs r step I h2 fun y hy => h y (List.mem_cons_of_mem _ hy)
/-- a loop and what comes behind it -/
theorem ufor_then {α β γ δ : Type} {f : α → T} (r : β → γ) (step : α → β → β) (I : β → Prop) (b0 : β) {body : T → γ → D γ} {xs : List α} {c0 : γ} {k : γ → D δ} {z : D δ} (h0 : c0 = r b0) (hI : I b0) (hs : ∀ x ∈ xs, ∀ b, I b → body (f x) (r b) = .ok (r (step x b)) ∧ I (step x b))
    (hk : I (xs.foldl (fun c x => step x c) b0) → k (r (xs.foldl (fun c x => step x c) b0)) = z) : (forD body (xs.map f) c0).bind k = z := by
  obtain ⟨h1, h2⟩ := ufor_abs r step I hI hs
  rw [h0, h1, D.ok_bind]; exact hk h2
theorem ulc_then {α δ : Type} {f : α → T} (g : α → Option T) {body : T → D (Option T)} {xs : List α} {k : T → D δ} {z : D δ} (h : ∀ x ∈ xs, body (f x) = .ok (g x)) (hl : xs.length ≤ 1000000) (hk : k (.lst (xs.filterMap g)) = z) : (lcD (xs.map f) body).bind k = z := by
  rw [ulc_pure g h hl, D.ok_bind]; exact hk
theorem ulcm_then {α δ : Type} {f : α → T} (g : α → T) {body : T → D (Option T)} {xs : List α} {k : T → D δ} {z : D δ} (h : ∀ x ∈ xs, body (f x) = .ok (some (g x))) (hl : xs.length ≤ 1000000) (hk : k (.lst (xs.map g)) = z) : (lcD (xs.map f) body).bind k = z := by
  rw [ulc_map g h hl, D.ok_bind]; exact hk
/-- a loop whose state is told by the number of turns -/
theorem ufor_ixL {γ : Type} {f : Nat → T} (r : Nat → γ) {body : T → γ → D γ} : ∀ (n i : Nat), (∀ k, i ≤ k → k < i + n → body (f k) (r k) = .ok (r (k + 1))) → forD body ((List.range' i n).map f) (r i) = .ok (r (i + n))
  | 0, i, _ => rfl
  | n + 1, i, h => by
    rw [List.range'_succ, List.map_cons]
    unfold forD
    rw [h i (Nat.le_refl _) (by omega), D.ok_bind, ufor_ixL r n (i + 1) fun k h1 h2 => h k (by omega) (by omega)]
    congr 2
    omega
theorem ufor_ix {γ δ : Type} {f : Nat → T} (r : Nat → γ) {body : T → γ → D γ} {n : Nat} {c0 : γ} {k : γ → D δ} {z : D δ} (h0 : c0 = r 0) (hs : ∀ i, i < n → body (f i) (r i) = .ok (r (i + 1))) (hk : k (r n) = z) : (forD body ((List.range n).map f) c0).bind k = z := by
  have := ufor_ixL (f := f) r (body := body) n 0 fun k _ h => hs k (by omega)
  rw [Nat.zero_add, ← List.range_eq_range'] at this
  rw [h0, this, D.ok_bind]; exact hk
/-- a loop whose state is told by what was walked -/
theorem ufor_preL {α γ : Type} {f : α → T} (r : List α → γ) {body : T → γ → D γ} : ∀ (xs pre : List α), (∀ p x s, pre ++ xs = p ++ x :: s → body (f x) (r p) = .ok (r (p ++ [x]))) → forD body (xs.map f) (r pre) = .ok (r (pre ++ xs))
  | [], pre, _ => by rw [List.append_nil]; rfl
  | x :: xs, pre, h => by
    rw [List.map_cons]
    unfold forD
    rw [h pre x xs rfl, D.ok_bind, ufor_preL r xs (pre ++ [x]) fun p y s e => h p y s (by rw [← e]; simp)]
    simp
theorem ufor_pre {α γ δ : Type} {f : α → T} (r : List α → γ) {body : T → γ → D γ} {xs : List α} {c0 : γ} {k : γ → D δ} {z : D δ} (h0 : c0 = r []) (hs : ∀ p x s, xs = p ++ x :: s → body (f x) (r p) = .ok (r (p ++ [x]))) (hk : k (r xs) = z) : (forD body (xs.map f) c0).bind k = z := by
  have := ufor_preL (f := f) r (body := body) xs [] fun p x s e => hs p x s (by simpa using e)
  rw [List.nil_append] at this
  rw [h0, this, D.ok_bind]; exact hk
/-! computing: an answer that is known -/
mutual
def sameT : T → T → Bool
  | .non, y => match y with | .non => true | _ => false
  | .bl a, y => match y with | .bl b => a == b | _ => false
  | .int i, y => match y with | .int j => decide (i = j) | _ => false
  | .str a, y => match y with | .str b => decide (a.cps.toList = b.cps.toList) | _ => false
  | .lst xs, y => match y with | .lst ys => sameTs xs ys | _ => false
  | .tup xs, y => match y with | .tup ys => sameTs xs ys | _ => false
  | _, _ => false
def sameTs : List T → List T → Bool
  | [], ys => match ys with | [] => true | _ => false
  | x :: xs, ys => match ys with | y :: r => sameT x y && sameTs xs r | [] => false
end
theorem str_ext {a b : Str} (h : a.cps.toList = b.cps.toList) : a = b := by
  obtain ⟨x⟩ := a
  obtain ⟨y⟩ := b
  congr 1
  exact Array.toList_inj.mp h
mutual
theorem sameT_eq : ∀ (x y : T), sameT x y = true → x = y
  | .non, y, h => by cases y <;> first | rfl | (simp [sameT] at h)
  | .bl b, y, h => by cases y <;> first | (simp [sameT] at h; rw [h]; done) | (simp [sameT] at h)
  | .int b, y, h => by cases y <;> first | (simp [sameT] at h; rw [h]; done) | (simp [sameT] at h)
  | .str b, y, h => by
    cases y with
    | str c => simp only [sameT, decide_eq_true_eq] at h; rw [str_ext h]
    | _ => simp [sameT] at h
  | .lst xs, y, h => by
    cases y with
    | lst ys => simp only [sameT] at h; rw [sameTs_eq xs ys h]
    | _ => simp [sameT] at h
  | .tup xs, y, h => by
    cases y with
    | tup ys => simp only [sameT] at h; rw [sameTs_eq xs ys h]
    | _ => simp [sameT] at h
  | .ty b, y, h => by simp [sameT] at h
  | .mach, y, h => by simp [sameT] at h
  | .cst b, y, h => by simp [sameT] at h
  | .scr b, y, h => by simp [sameT] at h
  | .dct b, y, h => by simp [sameT] at h
  | .obj b c, y, h => by simp [sameT] at h
theorem sameTs_eq : ∀ (xs ys : List T), sameTs xs ys = true → xs = ys
  | [], ys, h => by cases ys <;> first | rfl | (simp [sameTs] at h)
  | x :: xs, ys, h => by
    cases ys with
    | nil => simp [sameTs] at h
    | cons y r =>
      simp only [sameTs, Bool.and_eq_true] at h
      rw [sameT_eq x y h.1, sameTs_eq xs r h.2]
end
def isT (d : D T) (t : T) : Bool := match d with
  | .ok r => sameT r t
  | _ => false
theorem ok_of {d : D T} {t : T} (h : isT d t = true) : d = .ok t := by
  unfold isT at h
  split at h
  · rw [sameT_eq _ _ h]
  · cases h
/-! draws at the head -/
theorem dr_draws {α : Type} {m : Int} {k : T → D α} {c : Nat} {P : α → Prop} (h0 : 0 < m) (h1 : m < 1073741824) (h : ∀ r : Nat, (r : Int) < m → Dr (k (.int (r : Nat))) c P) : Dr ((U_next .mach (.int m)).bind k) (c + 1) P := by
  rw [next_m, chk_pos ⟨h0, h1⟩, D.draw_bind]
  exact dr_draw (by omega) (by omega) fun r hr => h r (by omega)
theorem dr_drawsN {α : Type} {m : Int} {k : T → D α} {c c' : Nat} {P : α → Prop} (h0 : 0 < m) (h1 : m < 1073741824) (h : ∀ r : Nat, (r : Int) < m → Dr (k (.int (r : Nat))) c P) (hc : c + 1 ≤ c') : Dr ((U_next .mach (.int m)).bind k) c' P := dr_mono (dr_draws h0 h1 h) hc fun _ q => q
/-- a comprehension of drawn things, and what comes behind it -/
theorem dr_lcN {α β : Type} {f : α → T} {body : T → D (Option T)} (P : α → T → Prop) {k c c' : Nat} {xs : List α} {kk : T → D β} {Q : β → Prop} (hl : xs.length ≤ 1000000) (h : ∀ x ∈ xs, Dr (body (f x)) k fun o => ∃ y, o = some y ∧ P x y) (hk : ∀ ys : List T, All2 P xs ys → Dr (kk (.lst ys)) c Q) (hc : xs.length * k + c ≤ c') : Dr ((lcD (xs.map f) body).bind kk) c' Q :=
  dr_bindN (dr_lc P hl h) (fun t ⟨ys, e, hy⟩ => e ▸ hk ys hy) hc
theorem dr_forN {α β γ : Type} {f : α → T} {body : T → γ → D γ} (I : γ → Prop) {k c c' : Nat} {xs : List α} {c0 : γ} {kk : γ → D β} {Q : β → Prop} (h0 : I c0) (h : ∀ x ∈ xs, ∀ c, I c → Dr (body (f x) c) k I) (hk : ∀ g, I g → Dr (kk g) c Q) (hc : xs.length * k + c ≤ c') : Dr ((forD body (xs.map f) c0).bind kk) c' Q :=
  dr_bindN (dr_for I h0 h) hk hc
theorem dr_forMN {α β γ : Type} {f : α → T} {body : T → γ → D (Out γ)} (I : γ → Prop) {k c c' : Nat} {xs : List α} {c0 : γ} {kk : Out γ → D β} {Q : β → Prop} (h0 : I c0) (h : ∀ x ∈ xs, ∀ c, I c → Dr (body (f x) c) k fun o => ∃ g, o = .next g ∧ I g) (hk : ∀ g, I g → Dr (kk (.next g)) c Q) (hc : xs.length * k + c ≤ c') : Dr ((forM body (xs.map f) c0).bind kk) c' Q :=
  dr_bindN (dr_forM I h0 h) (fun o ⟨g, e, hg⟩ => e ▸ hk g hg) hc
/-- a loop that is told by the number of turns, with draws -/
theorem dr_ixL {γ : Type} {f : Nat → T} {body : T → γ → D γ} (I : Nat → γ → Prop) {k : Nat} : ∀ (n i : Nat) (c : γ), I i c → (∀ j c, i ≤ j → j < i + n → I j c → Dr (body (f j) c) k (I (j + 1))) → Dr (forD body ((List.range' i n).map f) c) (n * k) (I (i + n))
  | 0, i, c, hc, _ => dr_ok hc
  | n + 1, i, c, hc, h => by
    rw [List.range'_succ, List.map_cons]
    unfold forD
    refine dr_bindN (h i c (Nat.le_refl _) (by omega) hc) (fun c' hc' => ?_) (c2 := n * k) ?_
    · have := dr_ixL I n (i + 1) c' hc' fun j c h1 h2 => h j c (by omega) (by omega)
      rw [show i + 1 + n = i + (n + 1) by omega] at this
      exact this
    · rw [Nat.succ_mul]; omega
theorem dr_ixN {γ β : Type} {f : Nat → T} {body : T → γ → D γ} (I : Nat → γ → Prop) {k c c' n : Nat} {c0 : γ} {kk : γ → D β} {Q : β → Prop} (h0 : I 0 c0) (h : ∀ j c, j < n → I j c → Dr (body (f j) c) k (I (j + 1))) (hk : ∀ g, I n g → Dr (kk g) c Q) (hc : n * k + c ≤ c') : Dr ((forD body ((List.range n).map f) c0).bind kk) c' Q := by
  have := dr_ixL (f := f) (body := body) I (k := k) n 0 c0 h0 fun j c _ h2 => h j c (by omega)
  rw [Nat.zero_add, ← List.range_eq_range'] at this
  exact dr_bindN this hk hc
theorem flat_next {m : Int} : dFlat (U_next .mach (.int m)) = U_next .mach (.int m) := by
  rw [next_m]
  unfold dFlat chk
  split
  · rfl
  · rfl
end TL
namespace TL
open PySem L2
/-! closed programs with few draws: all that can be drawn is gone through -/
def allD {α : Type} (p : α → Bool) : D α → Nat → Bool
  | .ok a, _ => p a
  | .bad, _ => false
  | .ex _, _ => false
  | .draw m k, n => decide (0 < n) && (decide (0 < m) && (decide (m < 1073741824) && (List.range m).all fun r => allD p (k r) (n - 1)))
theorem allD_dr {α : Type} {p : α → Bool} : ∀ {d : D α} {n : Nat}, allD p d n = true → Dr d n fun a => p a = true
  | .ok a, n, h => dr_ok (P := fun a => p a = true) h
  | .bad, n, h => by cases h
  | .ex _, n, h => by cases h
  | .draw m k, n, h => by
    unfold allD at h
    simp only [Bool.and_eq_true, decide_eq_true_eq, List.all_eq_true, List.mem_range] at h
    obtain ⟨h0, h1, h2, h3⟩ := h
    obtain ⟨n', rfl⟩ : ∃ n', n = n' + 1 := ⟨n - 1, by omega⟩
    exact dr_draw h1 h2 fun r hr => allD_dr (h3 r hr)
def isTrueT : T → Bool
  | .bl true => true
  | _ => false
theorem isTrueT_eq {t : T} (h : isTrueT t = true) : t = .bl true := by
  unfold isTrueT at h
  split at h
  · rfl
  · cases h
theorem dr_ite_f {α : Type} {c : D Bool} {a b : D α} {n : Nat} {P : α → Prop} (h : c = .ok false) (k : Dr b n P) : Dr (dIf c a b) n P := by rw [h]; exact k
theorem dB_f {d : D T} (h : d = .ok (.bl false)) : dB d = .ok false := by rw [h]; rfl
theorem dB_t {d : D T} (h : d = .ok (.bl true)) : dB d = .ok true := by rw [h]; rfl
theorem dr_assoc {α β γ : Type} {d : D α} {f : α → D β} {k : β → D γ} {c : Nat} {P : γ → Prop} (h : Dr (d.bind fun a => (f a).bind k) c P) : Dr ((d.bind f).bind k) c P := by rw [D.bind_assoc]; exact h
theorem lt6 {P : Nat → Prop} (h0 : P 0) (h1 : P 1) (h2 : P 2) (h3 : P 3) (h4 : P 4) (h5 : P 5) : ∀ a < 6, P a := fun a h => match a, h with
  | 0, _ => h0
  | 1, _ => h1
  | 2, _ => h2
  | 3, _ => h3
  | 4, _ => h4
  | 5, _ => h5
end TL
namespace K13
open PySem L2 TL PW
local instance : Mach := machA
local instance : CN := ⟨fun _ => none⟩
local instance : Xw := Xw.no
local instance : XCl := xcl
def isTupT : T → Bool
  | .tup _ => true
  | _ => false
set_option maxHeartbeats 0 in
theorem parts_ok : allD isTupT (U__law_parts .mach) 3 = true := by decide +kernel
end K13
namespace K13
open PySem L2 TL PW
local instance : Mach := machA
local instance : CN := ⟨fun _ => none⟩
local instance : Xw := Xw.no
local instance : XCl := xcl
theorem dr_of {α β : Type} {d : D α} {a : α} {k : α → D β} {c : Nat} {P : β → Prop} (h : d = .ok a) (hk : Dr (k a) c P) : Dr (D.bind d k) c P := by rw [h]; exact hk
def isNextB : Out Unit → Bool
  | .next _ => true
  | _ => false
theorem isNextB_ex {o : Out Unit} (h : isNextB o = true) : ∃ g, o = .next g ∧ True := by
  cases o with
  | next g => exact ⟨g, rfl, trivial⟩
  | ret t => cases h
set_option maxHeartbeats 0 in
theorem law_dr (ns : List Int) (hl : ns.length ≤ 63) : Dr (U_law (.scr ns)) 1000 fun t => t = .bl true := by
  unfold U_law
  have hm : ∃ m : Nat, m ≤ 8 ∧ (D.bind (dCons (d2 dAdd (.ok (.int 3)) (dN dMin2 (dCons (dN dLen (dCons (.ok (.scr ns)) dNil)) (dCons (.ok (.int 5)) dNil)))) dNil) rng1) = .ok ((List.range m).map fun i => T.int (i : Nat)) := by
    have hn2 : -(2 ^ 62) ≤ 3 + (if (5 : Int) < (ns.length : Int) then 5 else (ns.length : Int)) ∧ 3 + (if (5 : Int) < (ns.length : Int) then 5 else (ns.length : Int)) < 2 ^ 62 := by split <;> omega
    refine ⟨(3 + (if (5 : Int) < (ns.length : Int) then 5 else (ns.length : Int))).toNat, by split <;> omega, ?_⟩
    simp (disch := omega) only [chk_pos hn2, chk_le, chk_lt, D.ok_nox, D.bad_nox, D.ex_nox, ↓D.ok_bind, ↓D.bad_bind, ite_tt, ite_ff, dEqB_ss, dEqB_ii, dEqB_bb, dIsB_bb, dIsB_nn, dIsB_bn, dIsB_in, dIsB_sn, dIsB_ln, dIsB_tn, dIsB_dn, dIsB_on, dInB_ss, dInB_nl, dInB_nt, dInB_bl, dInB_bt, dInB_il, dInB_it, dInB_sl, dInB_st, dDGet_s, dDGet_i, dDIn_s, dDIn_i, slD_s, slD_l, slD_t, un2_t, un3_t, un4_t, un5_t, dun2_t, dun3_t, dun4_t, dun5_t, dApp_l, stD_ds, stD_di, stL_li, enumD_l, enumX_l, enumX_t, enumD_s, dMS_s, dML_l, dAndV_b, dOrV_b, dIf_ok, dTAnd_ok, dTOr_ok, dTNot_ok, dChain_ok, dFlat_ok, dGet1_s, dGet2_s, flat_n, flat_b, flat_i, flat_s, asB_b, notD_b, itemsD_l, itemsD_t, itemsD_s, itemsD_r, rng1_i, rng2_i, zipD_2, L0_0, L1_1, L2_2, L3_3, L4_4, L5_5, dAdd_ii, dAdd_ss, dAdd_ll, dAdd_tt, dIAdd_ii, dIAdd_ss, dCat_ll, dInt_ii, dIntC_ii, dOrd_ii, dOrd_ss, dMul_ii, dMul_si, dMul_li, dIx_l, dIx_t, dIx_s, dIx_r, dLen_s, dLen_l, dLen_t, dLen_r, dIntX_i, dIntX_b, dStr1_i, dAllAny_l, dMM_ii, dListOf_l, dListOf_t, dListOf_r, dTupOf_l, dTupOf_t, sSplit_s, sJoin_l, s1B_s, s1I_s, sIdx_s, sPart_s, lIdx_1, partD_i, dBin_i, dNeg_i, dInv_i, dRev_l, finM_n, finM_r, seqM_n, seqM_r, pr2_2, pr3_3, dSortI_l, listRng_i, truD_l, truD_b, truD_n, truD_i, truD_t, forD_nil, forM_nil, lcD_nil, dTup_, dLst_, isi_NoneType_int, isi_NoneType_bool, isi_NoneType_str, isi_NoneType_tuple, isi_NoneType_list, isi_NoneType_dict, isi_bool_int, isi_bool_bool, isi_bool_str, isi_bool_tuple, isi_bool_list, isi_bool_dict, isi_int_int, isi_int_bool, isi_int_str, isi_int_tuple, isi_int_list, isi_int_dict, isi_str_int, isi_str_bool, isi_str_str, isi_str_tuple, isi_str_list, isi_str_dict, isi_list_int, isi_list_bool, isi_list_str, isi_list_tuple, isi_list_list, isi_list_dict, isi_tuple_int, isi_tuple_bool, isi_tuple_str, isi_tuple_tuple, isi_tuple_list, isi_tuple_dict, isi_dict_int, isi_dict_bool, isi_dict_str, isi_dict_tuple, isi_dict_list, isi_dict_dict, d1, d2, d3, d4, d5, dNil, dCons, dN, dB, dNotV, dSeq, lcE, lcB, dSl, dPart, dNoPart, dRet, dNext, dispD, dpNil, dpCons, kvsOf, keyT, dTru, id, List.length_cons, List.length_nil, List.map_cons, List.map_nil, List.cons_append, List.nil_append, Option.map_some, Option.map_none, Bool.not_true, Bool.not_false, Nat.reduceAdd, D.ok_bind, D.bad_bind, dEq, dNe, dSub, dDiv, dMod, dPow, dShl, dShr, dAnd, dOr, dXor, dLt, dLe, dGt, dGe, dAll, dAny, dMin2, dMax2, if_true, if_false, reduceIte, Bool.false_eq_true, true_and, and_true, Bool.not_true, Bool.not_false, decide_true, decide_false, Bool.and_true, Bool.true_and, Bool.or_true, Bool.true_or, Bool.false_and, Bool.and_false, Bool.false_or, Bool.or_false, chk_true, ite_tt, ite_ff]
    rw [rangeT0]
  obtain ⟨m, hm6, hm⟩ := hm
  refine dr_assoc ?_
  refine dr_of hm ?_
  refine dr_forMN (f := fun i : Nat => T.int (i : Nat)) (fun _ : Unit => True) (k := 4) (c := 0) trivial (fun j hj c _ => ?_) (fun g _ => dr_eq (P := fun t => t = .bl true) (ok_of ?_) rfl) (by rw [List.length_range]; omega)
  · refine dr_of (a := .int (j : Nat)) rfl ?_
    clear hj
    revert c
    intro c
    exact dr_mono (allD_dr (p := isNextB) (n := 4) (by decide +kernel)) (Nat.le_refl _) fun a h => isNextB_ex h
  · cases g
    decide +kernel
theorem hs_law (ns : List Int) (hl : ns.length ≤ 63) : W_law noX F__law_parts F_Program_init F_Program_eq F__law_kinds_right lawEnds ((startT N_law [.scr ns]).set 1 (.tr .mach)) FUEL :=
  r_law (.scr ns) FUEL lawEnds (fun _ _ z => by cases z) (law_dr ns hl noX FUEL _ (by decide) fun a n' h _ => h)
end K13
namespace WD
end WD
namespace K13
open PySem L2 TL WD PW
local instance : Mach := machA
local instance : Xw := Xw.no
local instance : XCl := xcl
theorem law_ok [CN] {K : PySem.W.Frag} {mg : Str → Option Value} {P : Program} {w : World} {base : Heap} {f : Addr} {fd : FuncData} (G : Fun K "law" "law" s_law f fd) (T : Txt P K mg) : FnT P w K mg base 12 f fd ["_law_script"] (spLaw K) := by
  have C__law_next := c__law_next (P := P) (w := w) (base := base) T
  have C_is_number := c_is_number (P := P) (w := w) (base := base) (F := F_is_number) T (fun _ _ _ _ h => ft_len2 h) hs_is_number
  have C_is_bit := c_is_bit (F := F_is_bit) T C_is_number (fun _ _ _ _ h => ft_len1 h) hs_is_bit
  have C_is_ascending := c_is_ascending (F := F_is_ascending) T C_is_number (fun _ _ _ _ h => ft_len2 h) hs_is_ascending
  have C_is_parity := c_is_parity (F := F_is_parity) T C_is_bit C_is_ascending (fun _ _ _ _ h => ft_len2 h) hs_is_parity
  have C_is_line := c_is_line (P := P) (w := w) (base := base) (F := F_is_line) T (fun _ _ _ _ h => ft_len1 h) hs_is_line
  have C_are_lines := c_are_lines (F := F_are_lines) T C_is_line (fun _ _ _ _ h => ft_len1 h) hs_are_lines
  have C_is_factor := c_is_factor (P := P) (w := w) (base := base) (F := F_is_factor) T (fun _ _ _ _ h => ft_len1 h) hs_is_factor
  have C_is_word := c_is_word (F := F_is_word) T C_is_factor (fun _ _ _ _ h => ft_len1 h) hs_is_word
  have C_is_operator := c_is_operator (F := F_is_operator) T C_is_word (fun _ _ _ _ h => ft_len1 h) hs_is_operator
  have C_need_operator := c_need_operator (F := F_need_operator) T C_is_operator (fun _ _ _ _ h => ft_len1 h) hs_need_operator
  have C_word_in := c_word_in (P := P) (w := w) (base := base) (F := F_word_in) T (fun _ _ _ _ h => ft_len1 h) hs_word_in
  have C_lines_of := c_lines_of (F := F_lines_of) T C_need_operator C_word_in (fun _ _ _ _ h => ft_len1 h) hs_lines_of
  have C_is_gate := c_is_gate (F := F_is_gate) T C_is_line (fun _ _ _ _ h => ft_len2 h) hs_is_gate
  have C_is_measurement := c_is_measurement (P := P) (w := w) (base := base) (F := F_is_measurement) T (fun _ _ _ _ h => ft_len1 h) hs_is_measurement
  have C_acts_on := c_acts_on (F := F_acts_on) T C_word_in C_lines_of (fun _ _ _ _ h => ft_len2 h) hs_acts_on
  have C_alive_behind := c_alive_behind (F := F_alive_behind) T C_is_gate C_is_word C_acts_on C_is_parity C_is_operator C_is_line (fun _ _ _ _ h => ft_len3 h) hs_alive_behind
  have C__law_parts := c__law_parts (F := F__law_parts) T C__law_next (fun _ _ _ _ h => ft_len1 h) hs__law_parts
  have I_Program_init := i_Program_init (F := F_Program_init) T C_is_parity C_alive_behind C_is_measurement C_are_lines (fun ts n R RE h => match ts, h with | [_, _, _], _ => rfl) hs_Program_init
  have C__law_is_refused := c__law_is_refused (F := F__law_is_refused) T I_Program_init (fun _ _ _ _ h => ft_len3 h) hs__law_is_refused
  have C__law_kinds_right := c__law_kinds_right (F := F__law_kinds_right) T C__law_is_refused (fun _ _ _ _ h => ft_len1 h) hs__law_kinds_right
  have M_Program_eq := m_Program_eq (P := P) (w := w) (base := base) (F := F_Program_eq) T (fun _ _ _ _ h => ft_len2 h) hs_Program_eq
  exact ok_law G T C__law_parts I_Program_init M_Program_eq C__law_kinds_right C__law_next hs_law
end K13
open PySem PySem.W PyProof.Rows
set_option maxRecDepth 100000 in
set_option maxHeartbeats 0 in
theorem PySem.Challenge.cw_cliffordworks_k13_kinds_and_equality_holds : PySem.Challenge.rw_cliffordworks_k13_kinds_and_equality.Holds := by
  w_on; o_law; k_head; (case hw => w_witness2)
  k_fill
  refine K13.walk (l := PySem.Challenge.rw_cliffordworks_k13_kinds_and_equality) rfl rfl (fun w h Y => PySem.W.kIn_of Y) ?F
  case F =>
    intro w mg fa h KX G hmg
    refine' K13.all_mk KX G hmg ?top ?a0 ?l0 ?c0 ?k0 ?a1 ?l1 ?c1 ?k1 ?a2 ?l2 ?c2 ?k2 ?a3 ?l3 ?c3 ?k3 ?a4 ?l4 ?c4 ?k4 ?a5 ?l5 ?c5 ?k5 ?a6 ?l6 ?c6 ?k6 ?a7 ?l7 ?c7 ?k7 ?a8 ?l8 ?c8 ?k8 ?a9 ?l9 ?c9 ?k9 ?a10 ?l10 ?c10 ?k10 ?a11 ?l11 ?c11 ?k11 ?a12 ?l12 ?c12 ?k12 ?a13 ?l13 ?c13 ?k13 ?a14 ?l14 ?c14 ?k14 ?a15 ?l15 ?c15 ?k15 ?a16 ?l16 ?c16 ?k16 ?a17 ?l17 ?c17 ?k17 ?a18 ?l18 ?c18 ?k18 ?a19 ?l19 ?c19 ?k19 ?a20 ?l20 ?c20 ?k20 ?a21 ?l21 ?c21 ?k21 ?b_all ?b_bool ?b_enumerate ?b_int ?b_isinstance ?b_len ?b_list ?b_min ?b_range ?b_sorted ?b_str ?b_tuple ?g_DIGITS ?g_MAX_ALIVE ?g_MAX_BITS ?g_MAX_INPUTS ?g_MAX_LINE ?g_MAX_STATEMENTS ?g_MAX_TELLS ?g_NOTHING ?g_ONE_LINE ?h_ONE_LINE ?v_ONE_LINE ?g_TWO_LINES ?h_TWO_LINES ?v_TWO_LINES ?a_Invalid ?ga_Invalid ?gg_Invalid ?eb_Invalid ?hd_Invalid ?cc_Invalid ?ha_Invalid ?hm_Invalid ?ty_Invalid ?ow_Invalid ?kp_Invalid ?a_BadOperator ?ga_BadOperator ?gg_BadOperator ?eb_BadOperator ?hd_BadOperator ?cc_BadOperator ?ha_BadOperator ?hm_BadOperator ?ty_BadOperator ?ow_BadOperator ?kp_BadOperator ?nf_BadOperator_reason ?a_BadProgram ?ga_BadProgram ?gg_BadProgram ?eb_BadProgram ?hd_BadProgram ?cc_BadProgram ?ha_BadProgram ?hm_BadProgram ?ty_BadProgram ?ow_BadProgram ?kp_BadProgram ?nf_BadProgram_place ?a_Program ?pg_Program ?hd_Program ?po_Program ?sa_Program ?ha_Program ?hm_Program ?ty_Program ?ow_Program ?kp_Program ?nf_Program_inputs ?nf_Program_statements ?nf_Program_tells ?nf_Program_outputs ?nf_Program_bits ?nf_Program_rows ?sub_Invalid_BadProgram ?sub_Invalid_Program ?sub_BadOperator_BadProgram ?sub_BadOperator_Program ?sub_BadProgram_BadProgram ?sub_BadProgram_Program ?sub_Program_BadProgram ?sub_Program_Program ?tsb_NoneType_Program ?tsb_int_Program ?tsb_bool_Program ?tsb_str_Program ?tsb_tuple_Program ?tsb_list_Program ?tsb_dict_Program ?hn ?htk ?opq ?sup ?xlC_BadOperator ?xqC_BadOperator ?xqO_BadOperator ?xhD_BadOperator ?xqF_BadOperator ?xiF_BadOperator ?xsB_BadOperator ?xhi_BadOperator ?xhf_BadOperator ?xcd_BadOperator ?xca_BadOperator ?xvs2_BadOperator ?xfi_BadOperator ?xcc_BadOperator ?xsa_BadOperator ?xtk_BadOperator ?xlC_BadProgram ?xqC_BadProgram ?xqO_BadProgram ?xhD_BadProgram ?xqF_BadProgram ?xiF_BadProgram ?xsB_BadProgram ?xhi_BadProgram ?xhf_BadProgram ?xcd_BadProgram ?xca_BadProgram ?xvs2_BadProgram ?xfi_BadProgram ?xcc_BadProgram ?xsa_BadProgram ?xtk_BadProgram ?f_Program_init ?fn_Program_init ?mk_Program_init ?l_Program_init ?c_Program_init ?k_Program_init ?d_Program_init ?dv_Program_init ?d0_Program_init ?de0_Program_init ?f_Program_eq ?fn_Program_eq ?l_Program_eq ?c_Program_eq ?k_Program_eq ?nel_Program ?nea_Program ?nen_Program ?neq_Program K13.law_ok
    (case top => rfl)
    (case a0 => k_is)
    (case l0 => k_is)
    (case c0 => k_is)
    (case k0 => k_is)
    (case a1 => k_is)
    (case l1 => k_is)
    (case c1 => k_is)
    (case k1 => k_is)
    (case a2 => k_is)
    (case l2 => k_is)
    (case c2 => k_is)
    (case k2 => k_is)
    (case a3 => k_is)
    (case l3 => k_is)
    (case c3 => k_is)
    (case k3 => k_is)
    (case a4 => k_is)
    (case l4 => k_is)
    (case c4 => k_is)
    (case k4 => k_is)
    (case a5 => k_is)
    (case l5 => k_is)
    (case c5 => k_is)
    (case k5 => k_is)
    (case a6 => k_is)
    (case l6 => k_is)
    (case c6 => k_is)
    (case k6 => k_is)
    (case a7 => k_is)
    (case l7 => k_is)
    (case c7 => k_is)
    (case k7 => k_is)
    (case a8 => k_is)
    (case l8 => k_is)
    (case c8 => k_is)
    (case k8 => k_is)
    (case a9 => k_is)
    (case l9 => k_is)
    (case c9 => k_is)
    (case k9 => k_is)
    (case a10 => k_is)
    (case l10 => k_is)
    (case c10 => k_is)
    (case k10 => k_is)
    (case a11 => k_is)
    (case l11 => k_is)
    (case c11 => k_is)
    (case k11 => k_is)
    (case a12 => k_is)
    (case l12 => k_is)
    (case c12 => k_is)
    (case k12 => k_is)
    (case a13 => k_is)
    (case l13 => k_is)
    (case c13 => k_is)
    (case k13 => k_is)
    (case a14 => k_is)
    (case l14 => k_is)
    (case c14 => k_is)
    (case k14 => k_is)
    (case a15 => k_is)
    (case l15 => k_is)
    (case c15 => k_is)
    (case k15 => k_is)
    (case a16 => k_is)
    (case l16 => k_is)
    (case c16 => k_is)
    (case k16 => k_is)
    (case a17 => k_is)
    (case l17 => k_is)
    (case c17 => k_is)
    (case k17 => k_is)
    (case a18 => k_is)
    (case l18 => k_is)
    (case c18 => k_is)
    (case k18 => k_is)
    (case a19 => k_is)
    (case l19 => k_is)
    (case c19 => k_is)
    (case k19 => k_is)
    (case a20 => k_is)
    (case l20 => k_is)
    (case c20 => k_is)
    (case k20 => k_is)
    (case a21 => k_is)
    (case l21 => k_is)
    (case c21 => k_is)
    (case k21 => k_is)
    (case b_all => k_is)
    (case b_bool => k_is)
    (case b_enumerate => k_is)
    (case b_int => k_is)
    (case b_isinstance => k_is)
    (case b_len => k_is)
    (case b_list => k_is)
    (case b_min => k_is)
    (case b_range => k_is)
    (case b_sorted => k_is)
    (case b_str => k_is)
    (case b_tuple => k_is)
    (case g_DIGITS => k_is)
    (case g_MAX_ALIVE => k_is)
    (case g_MAX_BITS => k_is)
    (case g_MAX_INPUTS => k_is)
    (case g_MAX_LINE => k_is)
    (case g_MAX_STATEMENTS => k_is)
    (case g_MAX_TELLS => k_is)
    (case g_NOTHING => k_is)
    (case g_ONE_LINE => k_is)
    (case h_ONE_LINE => k_is)
    (case v_ONE_LINE => rfl)
    (case g_TWO_LINES => k_is)
    (case h_TWO_LINES => k_is)
    (case v_TWO_LINES => rfl)
    (case a_Invalid => k_is)
    (case ga_Invalid => k_is)
    (case gg_Invalid => k_is)
    (case eb_Invalid => k_is)
    (case hd_Invalid => k_is)
    (case cc_Invalid => k_is)
    (case ha_Invalid => k_is)
    (case hm_Invalid => k_is)
    (case ty_Invalid => k_is)
    (case ow_Invalid => k_is)
    (case kp_Invalid => k_is)
    (case a_BadOperator => k_is)
    (case ga_BadOperator => k_is)
    (case gg_BadOperator => k_is)
    (case eb_BadOperator => k_is)
    (case hd_BadOperator => k_is)
    (case cc_BadOperator => k_is)
    (case ha_BadOperator => k_is)
    (case hm_BadOperator => k_is)
    (case ty_BadOperator => k_is)
    (case ow_BadOperator => k_is)
    (case kp_BadOperator => k_is)
    (case nf_BadOperator_reason => k_is)
    (case a_BadProgram => k_is)
    (case ga_BadProgram => k_is)
    (case gg_BadProgram => k_is)
    (case eb_BadProgram => k_is)
    (case hd_BadProgram => k_is)
    (case cc_BadProgram => k_is)
    (case ha_BadProgram => k_is)
    (case hm_BadProgram => k_is)
    (case ty_BadProgram => k_is)
    (case ow_BadProgram => k_is)
    (case kp_BadProgram => k_is)
    (case nf_BadProgram_place => k_is)
    (case a_Program => k_is)
    (case pg_Program => k_is)
    (case hd_Program => k_is)
    (case po_Program => k_is)
    (case sa_Program => k_is)
    (case ha_Program => k_is)
    (case hm_Program => k_is)
    (case ty_Program => k_is)
    (case ow_Program => k_is)
    (case kp_Program => k_is)
    (case nf_Program_inputs => k_is)
    (case nf_Program_statements => k_is)
    (case nf_Program_tells => k_is)
    (case nf_Program_outputs => k_is)
    (case nf_Program_bits => k_is)
    (case nf_Program_rows => k_is)
    (case sub_Invalid_BadProgram => k_is)
    (case sub_Invalid_Program => k_is)
    (case sub_BadOperator_BadProgram => k_is)
    (case sub_BadOperator_Program => k_is)
    (case sub_BadProgram_BadProgram => k_is)
    (case sub_BadProgram_Program => k_is)
    (case sub_Program_BadProgram => k_is)
    (case sub_Program_Program => k_is)
    (case tsb_NoneType_Program => k_is)
    (case tsb_int_Program => k_is)
    (case tsb_bool_Program => k_is)
    (case tsb_str_Program => k_is)
    (case tsb_tuple_Program => k_is)
    (case tsb_list_Program => k_is)
    (case tsb_dict_Program => k_is)
    (case hn => k_is)
    (case htk => k_is)
    (case opq => k_is)
    (case sup => k_is)
    (case xlC_BadOperator => k_is)
    (case xqC_BadOperator => rfl)
    (case xqO_BadOperator => rfl)
    (case xhD_BadOperator => rfl)
    (case xqF_BadOperator => rfl)
    (case xiF_BadOperator => k_is)
    (case xsB_BadOperator => k_is)
    (case xhi_BadOperator => k_is)
    (case xhf_BadOperator => k_is)
    (case xcd_BadOperator => k_is)
    (case xca_BadOperator => k_is)
    (case xvs2_BadOperator => rfl)
    (case xfi_BadOperator => rfl)
    (case xcc_BadOperator => k_is)
    (case xsa_BadOperator => k_is)
    (case xtk_BadOperator => k_is)
    (case xlC_BadProgram => k_is)
    (case xqC_BadProgram => rfl)
    (case xqO_BadProgram => rfl)
    (case xhD_BadProgram => rfl)
    (case xqF_BadProgram => rfl)
    (case xiF_BadProgram => k_is)
    (case xsB_BadProgram => k_is)
    (case xhi_BadProgram => k_is)
    (case xhf_BadProgram => k_is)
    (case xcd_BadProgram => k_is)
    (case xca_BadProgram => k_is)
    (case xvs2_BadProgram => rfl)
    (case xfi_BadProgram => rfl)
    (case xcc_BadProgram => k_is)
    (case xsa_BadProgram => k_is)
    (case xtk_BadProgram => k_is)
    (case f_Program_init => k_is)
    (case fn_Program_init => k_is)
    (case mk_Program_init => k_is)
    (case l_Program_init => k_is)
    (case c_Program_init => k_is)
    (case k_Program_init => k_is)
    (case d_Program_init => k_is)
    (case dv_Program_init => rfl)
    (case d0_Program_init => k_is)
    (case de0_Program_init => rfl)
    (case f_Program_eq => k_is)
    (case fn_Program_eq => k_is)
    (case l_Program_eq => k_is)
    (case c_Program_eq => k_is)
    (case k_Program_eq => k_is)
    (case nel_Program => k_is)
    (case nea_Program => rfl)
    (case nen_Program => k_is)
    (case neq_Program => rfl)
#print axioms PySem.Challenge.cw_cliffordworks_k13_kinds_and_equality_holds
