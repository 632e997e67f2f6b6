import PyProof.Rows.All
import Wide.All
import OpenK.AllK
import Wide.FinOn
import HandS.ForMost
import HandS.ForExc
import HandS.Wide
import HandS.Conv
import HandS.TupAny
import HandS.RevTup
import HandS.IsInst
import PyProof.NeKinds
import HandS.Style
import PyProof.Rows.StrMul
import HandS.Small
import HandS.EndBits
import HandS.Zip0
import PyProof.Draws
import PyProof.EnumMake
import HandS.TupSets
import KE.KDictPairs
import PySem.Challenge.RW_sideturn_k31_values_read_by_names
set_option Elab.async false
set_option linter.all false
set_option maxRecDepth 100000
set_option maxHeartbeats 4123456
namespace PF
open PySem L2

abbrev DK := Sum Int (List Nat)
inductive D where
  | non | bl (b : Bool) | int (i : Int) | str (s : List Nat)
  | tup (l : List D) | lst (l : List D)
  | dct (kvs : List (DK × D)) | dcT (kvs : List (List DK × D))
  /-- the law's own dealer: a dict of the seed, the number at hand, the great numbers left -/
  | deal (seed number : Int) (left : List Int)

def mkS (l : List Nat) : Str := ⟨l.toArray⟩
theorem mkS_inj {a b : List Nat} (h : mkS a = mkS b) : a = b := by
  have := congrArg Str.cps h
  simpa [mkS] using this
theorem mkS_cps (x : Str) : mkS x.cps.toList = x := by
  cases x; simp [mkS]
def toK : DK → Key
  | .inl i => .inl i
  | .inr s => .inr (mkS s)

def KT (K : PySem.W.Frag) (a : Addr) (vs : List V) : Prop := ∀ H, SqT K H a vs
def KL (K : PySem.W.Frag) (a : Addr) (vs : List V) : Prop := ∀ H, SqL K H a vs
def ImL (K : PySem.W.Frag) (H : Hp) (a : Addr) (vs : List V) : Prop := (∃ o, H a = some (.frz o (.lst vs))) ∨ KL K a vs

mutual
def RI (K : PySem.W.Frag) (H : Hp) : D → V → Prop
  | .non, v => v = .non
  | .bl b, v => v = .bl b
  | .int i, v => v = .int i
  | .str s, v => v = .str (mkS s)
  | .tup l, v => ∃ a vs, v = .ref a ∧ H a = some (.tup vs) ∧ RIs K H l vs
  | .lst l, v => ∃ a vs, v = .ref a ∧ ImL K H a vs ∧ RIs K H l vs
  | .dct l, v => ∃ a o vs, v = .ref a ∧ H a = some (.frz o (.dK vs)) ∧ RIk K H l vs
  | .dcT l, v => ∃ a o vs, v = .ref a ∧ H a = some (.frz o (.dT vs)) ∧ RIt K H l vs
  | .deal _ _ _, _ => False
def RIs (K : PySem.W.Frag) (H : Hp) : List D → List V → Prop
  | [], vs => vs = []
  | d :: l, vs => ∃ v r, vs = v :: r ∧ RI K H d v ∧ RIs K H l r
def RIk (K : PySem.W.Frag) (H : Hp) : List (DK × D) → List (Key × V) → Prop
  | [], vs => vs = []
  | (k, d) :: l, vs => ∃ v r, vs = (toK k, v) :: r ∧ RI K H d v ∧ RIk K H l r
def RIt (K : PySem.W.Frag) (H : Hp) : List (List DK × D) → List (List Key × V) → Prop
  | [], vs => vs = []
  | (k, d) :: l, vs => ∃ v r, vs = (k.map toK, v) :: r ∧ RI K H d v ∧ RIt K H l r
end

structure Ext (H H' : Hp) : Prop where
  t : ∀ b xs, H b = some (.tup xs) → H' b = some (.tup xs)
  f : ∀ b o u, H b = some (.frz o u) → H' b = some (.frz o u)
theorem Ext.refl (H : Hp) : Ext H H := ⟨fun _ _ h => h, fun _ _ _ h => h⟩
theorem Ext.trans {H H1 H2 : Hp} (a : Ext H H1) (b : Ext H1 H2) : Ext H H2 := ⟨fun c xs h => b.t c xs (a.t c xs h), fun c o u h => b.f c o u (a.f c o u h)⟩

section
variable {K : PySem.W.Frag} {H H' : Hp}
theorem ImL.mono (e : Ext H H') {a : Addr} {vs : List V} (h : ImL K H a vs) : ImL K H' a vs := h.imp (fun ⟨o, q⟩ => ⟨o, e.f _ _ _ q⟩) id
theorem ImL.sq {a : Addr} {vs : List V} (h : ImL K H a vs) : SqL K H a vs := h.elim (fun ⟨o, q⟩ => .inl (.inr ⟨o, q⟩)) fun h => h H
mutual
theorem RI.mono (e : Ext H H') : ∀ {d : D} {v : V}, RI K H d v → RI K H' d v
  | .non, _, h => h
  | .bl _, _, h => h
  | .int _, _, h => h
  | .str _, _, h => h
  | .tup _, _, ⟨a, vs, h1, h2, h3⟩ => ⟨a, vs, h1, e.t _ _ h2, RIs.mono e h3⟩
  | .lst _, _, ⟨a, vs, h1, h2, h3⟩ => ⟨a, vs, h1, h2.mono e, RIs.mono e h3⟩
  | .dct _, _, ⟨a, o, vs, h1, h2, h3⟩ => ⟨a, o, vs, h1, e.f _ _ _ h2, RIk.mono e h3⟩
  | .dcT _, _, ⟨a, o, vs, h1, h2, h3⟩ => ⟨a, o, vs, h1, e.f _ _ _ h2, RIt.mono e h3⟩
  | .deal _ _ _, _, h => h
theorem RIs.mono (e : Ext H H') : ∀ {l : List D} {vs : List V}, RIs K H l vs → RIs K H' l vs
  | [], _, h => h
  | _ :: _, _, ⟨v, r, h1, h2, h3⟩ => ⟨v, r, h1, RI.mono e h2, RIs.mono e h3⟩
theorem RIk.mono (e : Ext H H') : ∀ {l : List (DK × D)} {vs : List (Key × V)}, RIk K H l vs → RIk K H' l vs
  | [], _, h => h
  | (_, _) :: _, _, ⟨v, r, h1, h2, h3⟩ => ⟨v, r, h1, RI.mono e h2, RIk.mono e h3⟩
theorem RIt.mono (e : Ext H H') : ∀ {l : List (List DK × D)} {vs : List (List Key × V)}, RIt K H l vs → RIt K H' l vs
  | [], _, h => h
  | (_, _) :: _, _, ⟨v, r, h1, h2, h3⟩ => ⟨v, r, h1, RI.mono e h2, RIt.mono e h3⟩
end
end

/-! ### what may be written: where it stands -/
abbrev FS := Addr → Prop
def dealK (sd nm : Int) (b : Addr) : List (Key × V) := [(.inr (mkS [115, 101, 101, 100]), .int sd), (.inr (mkS [110, 117, 109, 98, 101, 114]), .int nm), (.inr (mkS [108, 101, 102, 116]), .ref b)]
def OwnR (K : PySem.W.Frag) (H : Hp) (S : FS) : D → V → Prop
  | .lst l, v => ∃ a vs, v = .ref a ∧ S a ∧ H a = some (.lst vs) ∧ RIs K H l vs
  | .dct l, v => ∃ a vs, v = .ref a ∧ S a ∧ H a = some (.dK vs) ∧ RIk K H l vs
  | .dcT l, v => ∃ a vs, v = .ref a ∧ S a ∧ H a = some (.dT vs) ∧ RIt K H l vs
  | .deal sd nm lf, v => ∃ a b, v = .ref a ∧ S a ∧ S b ∧ H a = some (.dK (dealK sd nm b)) ∧ H b = some (.lst (lf.map V.int))
  | _, _ => False
/-- what may be read -/
def RdR (K : PySem.W.Frag) (H : Hp) : D → V → Prop
  | .tup l, v => ∃ a vs, v = .ref a ∧ H a = some (.tup vs) ∧ RIs K H l vs
  | .lst l, v => ∃ a vs, v = .ref a ∧ SqL K H a vs ∧ RIs K H l vs
  | .dct l, v => ∃ a vs, v = .ref a ∧ Rd H a (.dK vs) ∧ RIk K H l vs
  | .dcT l, v => ∃ a vs, v = .ref a ∧ Rd H a (.dT vs) ∧ RIt K H l vs
  | .non, v => v = .non
  | .bl b, v => v = .bl b
  | .int i, v => v = .int i
  | .str s, v => v = .str (mkS s)
  | .deal sd nm lf, v => ∃ a b, v = .ref a ∧ Rd H a (.dK (dealK sd nm b)) ∧ SqL K H b (lf.map V.int)
section
variable {K : PySem.W.Frag} {H H' : Hp} {S S' : FS}
theorem RI.rd {d : D} {v : V} (h : RI K H d v) : RdR K H d v := by
  cases d with
  | tup l => obtain ⟨a, vs, h1, h2, h3⟩ := h; exact ⟨a, vs, h1, h2, h3⟩
  | lst l => obtain ⟨a, vs, h1, h2, h3⟩ := h; exact ⟨a, vs, h1, h2.sq, h3⟩
  | dct l => obtain ⟨a, o, vs, h1, h2, h3⟩ := h; exact ⟨a, vs, h1, .inr ⟨o, h2⟩, h3⟩
  | dcT l => obtain ⟨a, o, vs, h1, h2, h3⟩ := h; exact ⟨a, vs, h1, .inr ⟨o, h2⟩, h3⟩
  | deal _ _ _ => exact False.elim h
  | _ => exact h
theorem OwnR.rd {d : D} {v : V} (h : OwnR K H S d v) : RdR K H d v := by
  cases d with
  | lst l => obtain ⟨a, vs, h1, _, h2, h3⟩ := h; exact ⟨a, vs, h1, SqL.of h2, h3⟩
  | dct l => obtain ⟨a, vs, h1, _, h2, h3⟩ := h; exact ⟨a, vs, h1, .inl h2, h3⟩
  | dcT l => obtain ⟨a, vs, h1, _, h2, h3⟩ := h; exact ⟨a, vs, h1, .inl h2, h3⟩
  | deal _ _ _ => obtain ⟨a, b, h1, _, _, h2, h3⟩ := h; exact ⟨a, b, h1, .inl h2, SqL.of h3⟩
  | _ => exact False.elim h
theorem OwnR.keep {d : D} {v : V} (h : OwnR K H S d v) (k : ∀ b o, S b → H b = some o → H' b = some o) (e : Ext H H') : OwnR K H' S d v := by
  cases d with
  | lst l => obtain ⟨a, vs, h1, s, h2, h3⟩ := h; exact ⟨a, vs, h1, s, k _ _ s h2, h3.mono e⟩
  | dct l => obtain ⟨a, vs, h1, s, h2, h3⟩ := h; exact ⟨a, vs, h1, s, k _ _ s h2, h3.mono e⟩
  | dcT l => obtain ⟨a, vs, h1, s, h2, h3⟩ := h; exact ⟨a, vs, h1, s, k _ _ s h2, h3.mono e⟩
  | deal sd nm lf => obtain ⟨a, b, h1, s1, s2, h2, h3⟩ := h; exact ⟨a, b, h1, s1, s2, k _ _ s1 h2, k _ _ s2 h3⟩
  | _ => exact False.elim h
theorem OwnR.more {d : D} {v : V} (h : OwnR K H S d v) (k : ∀ b, S b → S' b) : OwnR K H S' d v := by
  cases d with
  | lst l => obtain ⟨a, vs, h1, s, h2, h3⟩ := h; exact ⟨a, vs, h1, k _ s, h2, h3⟩
  | dct l => obtain ⟨a, vs, h1, s, h2, h3⟩ := h; exact ⟨a, vs, h1, k _ s, h2, h3⟩
  | dcT l => obtain ⟨a, vs, h1, s, h2, h3⟩ := h; exact ⟨a, vs, h1, k _ s, h2, h3⟩
  | deal sd nm lf => obtain ⟨a, b, h1, s1, s2, h2, h3⟩ := h; exact ⟨a, b, h1, k _ s1, k _ s2, h2, h3⟩
  | _ => exact False.elim h
end

/-! ### slots -/
inductive Sl where
  | non | imm (d : D) | own (d : D) | par (d : D)
abbrev Env := List Sl
def SlR (K : PySem.W.Frag) (H : Hp) (S : FS) (pin : Option V) : Sl → Option V → Prop
  | .non, _ => True
  | .imm d, o => ∃ v, o = some v ∧ RI K H d v
  | .own d, o => ∃ v, o = some v ∧ OwnR K H S d v
  | .par d, o => ∃ v, o = some v ∧ pin = some v ∧ OwnR K H S d v
def Un (F : Nat → FS) : FS := fun a => ∃ i, F i a
structure EnvR (K : PySem.W.Frag) (P : Nat → Option V) (H : Hp) (F : Nat → FS) (ρ : Env) (σ : St) : Prop where
  len : σ.length = ρ.length
  sl : ∀ i s, ρ[i]? = some s → SlR K H (F i) (P i) s σ[i]?.join
  dj : ∀ i j a, F i a → F j a → i = j
  dom : ∀ i a, F i a → H a ≠ none
/-- from one heap to a later one: U may have changed, U' may be changed from now on -/
structure Frm (U U' : FS) (H H' : Hp) : Prop where
  keep : ∀ b o, ¬ U b → H b = some o → H' b = some o
  ext : Ext H H'
  dom : ∀ b, H b ≠ none → H' b ≠ none
  sub : ∀ b, U' b → U b ∨ H b = none
/-- all stays, S is new -/
structure Grow (S : FS) (H H' : Hp) : Prop where
  keep : ∀ b o, H b = some o → H' b = some o
  new : ∀ a, S a → H a = none
theorem Grow.ext {S : FS} {H H' : Hp} (g : Grow S H H') : Ext H H' := ⟨fun _ _ h => g.keep _ _ h, fun _ _ _ h => g.keep _ _ h⟩
theorem Grow.dom {S : FS} {H H' : Hp} (g : Grow S H H') : ∀ b, H b ≠ none → H' b ≠ none := fun b h => by
  cases q : H b with
  | none => exact absurd q h
  | some o => rw [g.keep b o q]; exact fun z => nomatch z
theorem Grow.refl {S : FS} {H : Hp} (h : ∀ a, ¬ S a) : Grow S H H := ⟨fun _ _ h => h, fun a s => absurd s (h a)⟩
theorem Grow.same {S : FS} {H H' : Hp} (g : Grow S H H') : Same H H' := g.keep
theorem Frm.refl (U : FS) (H : Hp) : Frm U U H H := ⟨fun _ _ _ h => h, Ext.refl H, fun _ h => h, fun _ h => .inl h⟩
theorem Frm.trans {U U1 U2 : FS} {H H1 H2 : Hp} (a : Frm U U1 H H1) (b : Frm U1 U2 H1 H2) : Frm U U2 H H2 where
  keep := fun c o n h => b.keep c o (fun z => (a.sub c z).elim n fun q => by rw [q] at h; cases h) (a.keep c o n h)
  ext := a.ext.trans b.ext
  dom := fun c h => b.dom c (a.dom c h)
  sub := fun c h => by
    rcases b.sub c h with z | z
    · exact a.sub c z
    · refine .inr ?_
      cases q : H c with
      | none => rfl
      | some o => exact absurd z (a.dom c (by rw [q]; exact fun z => nomatch z))
theorem Frm.less {U U1 U2 : FS} {H H1 : Hp} (a : Frm U U1 H H1) (h : ∀ b, U2 b → U1 b) : Frm U U2 H H1 := ⟨a.keep, a.ext, a.dom, fun b z => a.sub b (h b z)⟩
theorem Frm.wide {U U0 U1 : FS} {H H1 : Hp} (a : Frm U U1 H H1) (h : ∀ b, U b → U0 b) : Frm U0 U1 H H1 := ⟨fun b o n => a.keep b o fun z => n (h b z), a.ext, a.dom, fun b z => (a.sub b z).imp (h b) id⟩
theorem Frm.of_grow {U S : FS} {H H' : Hp} (g : Grow S H H') : Frm U (fun a => U a ∨ S a) H H' := ⟨fun b o _ h => g.keep b o h, g.ext, g.dom, fun b h => h.imp id (g.new b)⟩
theorem join_some {α : Type} {o : Option (Option α)} {v : α} (h : o.join = some v) : o = some (some v) := by
  cases o with
  | none => cases h
  | some x => cases x with
    | none => cases h
    | some y => cases h; rfl
section
variable {K : PySem.W.Frag} {P : Nat → Option V} {H H' : Hp} {F : Nat → FS} {ρ : Env} {σ : St} {S : FS}
theorem SlR.keep {pin : Option V} {s : Sl} {o : Option V} (h : SlR K H S pin s o) (k : ∀ b o, S b → H b = some o → H' b = some o) (e : Ext H H') : SlR K H' S pin s o := by
  cases s with
  | non => trivial
  | imm d => obtain ⟨v, h1, h2⟩ := h; exact ⟨v, h1, h2.mono e⟩
  | own d => obtain ⟨v, h1, h2⟩ := h; exact ⟨v, h1, h2.keep k e⟩
  | par d => obtain ⟨v, h1, h0, h2⟩ := h; exact ⟨v, h1, h0, h2.keep k e⟩
theorem EnvR.keep (E : EnvR K P H F ρ σ) (k : ∀ b o, Un F b → H b = some o → H' b = some o) (e : Ext H H') (d : ∀ b, H b ≠ none → H' b ≠ none) : EnvR K P H' F ρ σ :=
  ⟨E.len, fun i s h => (E.sl i s h).keep (fun b o q => k b o ⟨i, q⟩) e, E.dj, fun i a h => d a (E.dom i a h)⟩
theorem EnvR.grow (E : EnvR K P H F ρ σ) (g : Grow S H H') : EnvR K P H' F ρ σ := E.keep (fun b o _ h => g.keep b o h) g.ext g.dom
theorem EnvR.nf (E : EnvR K P H F ρ σ) {a : Addr} (h : H a = none) : ∀ i, ¬ F i a := fun i z => E.dom i a z h
end

/-! ### values -/
inductive Vl where
  | imm (d : D) | own (d : D) | ref (i : Nat)
def VlR (K : PySem.W.Frag) (σ : St) (H : Hp) (S : FS) : Vl → V → Prop
  | .imm d, u => RI K H d u
  | .own d, u => OwnR K H S d u ∧ ∀ a, S a → H a ≠ none
  | .ref i, u => σ[i]? = some (some u)
def VlN (K : PySem.W.Frag) (H : Hp) (S : FS) : Vl → V → Prop
  | .imm d, u => RI K H d u
  | .own d, u => OwnR K H S d u ∧ ∀ a, S a → H a ≠ none
  | .ref _, _ => False
def rd (ρ : Env) : Vl → Option D
  | .imm d => some d
  | .own d => some d
  | .ref i => match ρ[i]? with
    | some (.imm d) => some d
    | some (.own d) => some d
    | some (.par d) => some d
    | _ => none
section
variable {K : PySem.W.Frag} {P : Nat → Option V} {H H' : Hp} {F F' : Nat → FS} {ρ : Env} {σ : St} {S U' : FS} {v : Vl} {u : V} {d : D}
theorem VlN.vl (h : VlN K H S v u) : VlR K σ H S v u := by
  cases v with
  | imm d => exact h
  | own d => exact h
  | ref i => exact False.elim h
theorem rd_ok (E : EnvR K P H F ρ σ) (r : VlR K σ H S v u) (h : rd ρ v = some d) : RdR K H d u := by
  cases v with
  | imm d' => cases h; exact RI.rd r
  | own d' => cases h; exact r.1.rd
  | ref i =>
    have r' : σ[i]? = some (some u) := r
    unfold rd at h
    cases q : ρ[i]? with
    | none => simp [q] at h
    | some s =>
      have z := E.sl i s q
      rw [r'] at z
      cases s with
      | non => simp [q] at h
      | imm d' => simp [q] at h; subst h; obtain ⟨w, e, x⟩ := z; cases e; exact x.rd
      | own d' => simp [q] at h; subst h; obtain ⟨w, e, x⟩ := z; cases e; exact x.rd
      | par d' => simp [q] at h; subst h; obtain ⟨w, e, _, x⟩ := z; cases e; exact x.rd
theorem VlR.keep (r : VlR K σ H S v u) (dj : ∀ i a, F i a → ¬ S a) (f : Frm (Un F) U' H H') : VlR K σ H' S v u := by
  cases v with
  | imm d => exact RI.mono f.ext r
  | own d => exact ⟨r.1.keep (fun b o s h => f.keep b o (fun ⟨i, z⟩ => dj i b z s) h) f.ext, fun a s => f.dom a (r.2 a s)⟩
  | ref i => exact r
end

/-! ### what a piece of text comes to -/
structure Xc where
  cls : Str
  fs : List (Str × D)
def RIf (K : PySem.W.Frag) (H : Hp) : List (Str × D) → List (Str × V) → Prop
  | [], vs => vs = []
  | (k, d) :: l, vs => ∃ v r, vs = (k, v) :: r ∧ RI K H d v ∧ RIf K H l r
def XcR (K : PySem.W.Frag) (mg : Str → Option Value) (H : Hp) (x : Xc) (cls : Value) (d : Option Addr) : Prop :=
  ∃ C : Addr, mg x.cls = some (.ref C) ∧ cls = .ref C ∧ ((x.fs = [] ∧ d = none) ∨ ∃ dd vs, d = some dd ∧ H dd = some (.xd vs) ∧ RIf K H x.fs vs)
inductive Out (α : Type) where
  | ok (a : α) (ρ : Env) | exc (x : Xc) (ρ : Env) | fail
def Out.bind {α β : Type} : Out α → (α → Env → Out β) → Out β
  | .ok a ρ, f => f a ρ
  | .exc x ρ, _ => .exc x ρ
  | .fail, _ => .fail
@[simp] theorem Out.bind_ok {α β : Type} (a : α) (ρ : Env) (f : α → Env → Out β) : (Out.ok a ρ).bind f = f a ρ := rfl
@[simp] theorem Out.bind_exc {α β : Type} (x : Xc) (ρ : Env) (f : α → Env → Out β) : (Out.exc x ρ : Out α).bind f = .exc x ρ := rfl
@[simp] theorem Out.bind_fail {α β : Type} (f : α → Env → Out β) : (Out.fail : Out α).bind f = .fail := rfl
abbrev SE := Env → Out Vl
abbrev ST := Env → Out Bool
abbrev SA := Env → Out (List Vl)
inductive SOut where
  | nx (ρ : Env) | rt (v : Vl) (ρ : Env) | bk (ρ : Env) | ct (ρ : Env) | exc (x : Xc) (ρ : Env) | fail
abbrev SS := Env → SOut
def PostO (K : PySem.W.Frag) (mg : Str → Option Value) (P : Nat → Option V) (W : WX) (σ : St) {α β : Type} (R : Hp → FS → α → β → Prop) (Q : β → Hp → Prop) (F : Nat → FS) (H : Hp) : Out α → Prop
  | .ok a ρ' => ∀ u H' F' S, EnvR K P H' F' ρ' σ → R H' S a u → (∀ i a, F' i a → ¬ S a) → Frm (Un F) (fun a => Un F' a ∨ S a) H H' → Q u H'
  | .exc x ρ' => ∀ cls d H' F', EnvR K P H' F' ρ' σ → XcR K mg H' x cls d → Frm (Un F) (Un F') H H' → W cls d σ H'
  | .fail => False
def PostS (K : PySem.W.Frag) (mg : Str → Option Value) (P : Nat → Option V) (W : WX) (D : Ends) (F : Nat → FS) (H : Hp) : SOut → Prop
  | .nx ρ' => ∀ σ' H' F', EnvR K P H' F' ρ' σ' → Frm (Un F) (Un F') H H' → D.nx σ' H'
  | .bk ρ' => ∀ σ' H' F', EnvR K P H' F' ρ' σ' → Frm (Un F) (Un F') H H' → D.bk σ' H'
  | .ct ρ' => ∀ σ' H' F', EnvR K P H' F' ρ' σ' → Frm (Un F) (Un F') H H' → D.ct σ' H'
  | .rt v ρ' => ∀ u σ' H' F' S, EnvR K P H' F' ρ' σ' → VlR K σ' H' S v u → (∀ i a, F' i a → ¬ S a) → Frm (Un F) (fun a => Un F' a ∨ S a) H H' → D.rt u H'
  | .exc x ρ' => ∀ cls d σ' H' F', EnvR K P H' F' ρ' σ' → XcR K mg H' x cls d → Frm (Un F) (Un F') H H' → W cls d σ' H'
  | .fail => False
theorem Frm.step {F F1 : Nat → FS} {S1 U2 : FS} {H H1 H2 : Hp} (a : Frm (Un F) (fun a => Un F1 a ∨ S1 a) H H1) (b : Frm (Un F1) U2 H1 H2) : Frm (Un F) U2 H H2 := (a.less fun _ h => .inl h).trans b
theorem PostO.from {K : PySem.W.Frag} {mg : Str → Option Value} {P : Nat → Option V} {W : WX} {σ : St} {α β : Type} {R : Hp → FS → α → β → Prop} {Q : β → Hp → Prop} {F F1 : Nat → FS} {S1 : FS} {H H1 : Hp} {o : Out α}
    (h : PostO K mg P W σ R Q F H o) (f : Frm (Un F) (fun a => Un F1 a ∨ S1 a) H H1) : PostO K mg P W σ R Q F1 H1 o := by
  cases o with
  | ok a ρ' => exact fun u H' F' S e r dj g => h u H' F' S e r dj (f.step g)
  | exc x ρ' => exact fun cls d H' F' e r g => h cls d H' F' e r (f.step g)
  | fail => exact h
theorem PostS.from {K : PySem.W.Frag} {mg : Str → Option Value} {P : Nat → Option V} {W : WX} {D : Ends} {F F1 : Nat → FS} {S1 : FS} {H H1 : Hp} {o : SOut}
    (h : PostS K mg P W D F H o) (f : Frm (Un F) (fun a => Un F1 a ∨ S1 a) H H1) : PostS K mg P W D F1 H1 o := by
  cases o with
  | nx ρ' => exact fun σ' H' F' e g => h σ' H' F' e (f.step g)
  | bk ρ' => exact fun σ' H' F' e g => h σ' H' F' e (f.step g)
  | ct ρ' => exact fun σ' H' F' e g => h σ' H' F' e (f.step g)
  | rt v ρ' => exact fun u σ' H' F' S e r dj g => h u σ' H' F' S e r dj (f.step g)
  | exc x ρ' => exact fun cls d σ' H' F' e r g => h cls d σ' H' F' e r (f.step g)
  | fail => exact h

/-! ### the judgements -/
def SdE (K : PySem.W.Frag) (mg : Str → Option Value) (W : WX) (te : TE) (se : SE) : Prop := ∀ P σ H F ρ Q, EnvR K P H F ρ σ → PostO K mg P W σ (VlR K σ) Q F H (se ρ) → te σ H Q
def SdT (K : PySem.W.Frag) (mg : Str → Option Value) (W : WX) (te : TT) (se : ST) : Prop := ∀ P σ H F ρ Q, EnvR K P H F ρ σ → PostO K mg P W σ (fun _ _ a b => a = b) Q F H (se ρ) → te σ H Q
/-- argument lists: no new thing that may be written -/
def AsR (K : PySem.W.Frag) (σ : St) (H : Hp) : List Vl → List V → Prop
  | [], us => us = []
  | .own _ :: _, _ => False
  | v :: l, us => ∃ u r, us = u :: r ∧ VlR K σ H (fun _ => False) v u ∧ AsR K σ H l r
def SdA (K : PySem.W.Frag) (mg : Str → Option Value) (W : WX) (te : TA) (se : SA) : Prop := ∀ P σ H F ρ Q, EnvR K P H F ρ σ → PostO K mg P W σ (fun H _ => AsR K σ H) Q F H (se ρ) → te σ H Q
def SdS (K : PySem.W.Frag) (mg : Str → Option Value) (W : WX) (ts : TS) (ss : SS) : Prop := ∀ P σ H F ρ D, EnvR K P H F ρ σ → PostS K mg P W D F H (ss ρ) → ts D σ H
def PEd (X : Cx) (W : WX) (e : Expr) (se : SE) : Prop := ∃ te, PE X e te ∧ SdE X.K X.mg W te se
def PTd (X : Cx) (W : WX) (e : Expr) (se : ST) : Prop := ∃ te, PT X e te ∧ SdT X.K X.mg W te se
def PAd (X : Cx) (W : WX) (es : List Expr) (se : SA) : Prop := ∃ te, PA X es te ∧ SdA X.K X.mg W te se
def PSd (X : Cx) (W : WX) (st : Stmt) (ss : SS) : Prop := ∃ ts, PS X st ts ∧ SdS X.K X.mg W ts ss
def PBd (X : Cx) (W : WX) (st : List Stmt) (ss : SS) : Prop := ∃ ts, PSs X st ts ∧ SdS X.K X.mg W ts ss
end PF

namespace PF
open PySem L2

structure Ctx (X : Cx) (W : WX) (k : Nat) : Prop where
  tk : Takes X W
  hp : PassesOwn (model X.prog X.w) X.A X.env X.xe
  calm : X.calm = true
  nd : X.N.Nodup
  room : Room k X.A

/-! ### names, constants -/
def eVar (i : Nat) : SE := fun ρ => match ρ[i]? with
  | some (.imm d) => .ok (.imm d) ρ
  | some (.own _) => .ok (.ref i) ρ
  | some (.par _) => .ok (.ref i) ρ
  | _ => .fail
def eC (d : D) : SE := fun ρ => .ok (.imm d) ρ
section
variable {X : Cx} {W : WX} {K : PySem.W.Frag} {mg : Str → Option Value}
theorem sd_var (i : Nat) : SdE K mg W (tVar i) (eVar i) := by
  intro P σ H F ρ Q E h
  unfold eVar at h
  cases q : ρ[i]? with
  | none => rw [q] at h; exact h.elim
  | some s =>
    rw [q] at h
    have z := E.sl i s q
    cases s with
    | non => exact h.elim
    | imm d =>
      obtain ⟨v, e, r⟩ := z
      exact ⟨v, join_some e, h v H F (fun _ => False) E r (fun _ _ _ z => z) (Frm.refl _ _ |>.less fun b z => z.elim id False.elim)⟩
    | own d =>
      obtain ⟨v, e, r⟩ := z
      exact ⟨v, join_some e, h v H F (fun _ => False) E (join_some e) (fun _ _ _ z => z) (Frm.refl _ _ |>.less fun b z => z.elim id False.elim)⟩
    | par d =>
      obtain ⟨v, e, _, r⟩ := z
      exact ⟨v, join_some e, h v H F (fun _ => False) E (join_some e) (fun _ _ _ z => z) (Frm.refl _ _ |>.less fun b z => z.elim id False.elim)⟩
theorem sd_c {d : D} {v : V} (r : ∀ H, RI K H d v) : SdE K mg W (tC v) (eC d) := fun P σ H F ρ Q E h =>
  h v H F (fun _ => False) E (r H) (fun _ _ _ z => z) (Frm.refl _ _ |>.less fun b z => z.elim id False.elim)
theorem pd_var (i : Nat) {x : Str} {pos : Pos} (hN : X.N[i]? = some x := by rfl) (hv : Vis X.env.scope x := by first | exact Or.inl rfl | exact Or.inr (Or.inl rfl) | exact Or.inr (Or.inr rfl))
    (hd : (x == ("__debug__" : Str)) = false := by decide) (hcd : (x == ("__classdict__" : Str)) = false := by decide) : PEd X W (.Name x pos) (eVar i) := ⟨_, pe_var hN hv hd hcd, sd_var i⟩
theorem pd_int {i j pos} : PEd X W (.Constant (.int i) j pos) (eC (.int i)) := ⟨_, pe_int, sd_c fun _ => rfl⟩
theorem pd_bl {b j pos} : PEd X W (.Constant (.bool b) j pos) (eC (.bl b)) := ⟨_, pe_bl, sd_c fun _ => rfl⟩
theorem pd_non {j pos} : PEd X W (.Constant .none j pos) (eC .non) := ⟨_, pe_non, sd_c fun _ => rfl⟩
theorem pd_str (l : List Nat) {x : Str} {j pos} (h : x = mkS l := by decide +kernel) : PEd X W (.Constant (.str x) j pos) (eC (.str l)) := ⟨_, pe_str, sd_c fun _ => by rw [h]; rfl⟩
theorem pd_glob {x : Str} {d : D} {v : V} {u : Value} {pos : Pos} (hg : Gl X x) (hm : X.mg x = some u) (r : RelV v u) (ri : ∀ H, RI X.K H d v) (hd : (x == ("__debug__" : Str)) = false := by decide) : PEd X W (.Name x pos) (eC d) :=
  ⟨_, pe_glob hg hm r hd, sd_c ri⟩

/-! ### two places, one place: what is read -/
def eBin (f : D → D → Option Vl) (a b : SE) : SE := fun ρ => (a ρ).bind fun va ρ1 => (b ρ1).bind fun vb ρ2 => match rd ρ2 va, rd ρ2 vb with
  | some x, some y => match f x y with
    | some v => .ok v ρ2
    | none => .fail
  | _, _ => .fail
def eUn (f : D → Option Vl) (a : SE) : SE := fun ρ => (a ρ).bind fun va ρ1 => match rd ρ1 va with
  | some x => match f x with
    | some v => .ok v ρ1
    | none => .fail
  | _ => .fail
def NewQ (K : PySem.W.Frag) (H : Hp) (v : Vl) (Q : VK) : Prop := ∀ u H' S, VlN K H' S v u → Grow S H H' → Q u H'
def OpD (K : PySem.W.Frag) (r : R2) (f : D → D → Option Vl) : Prop := ∀ H x y u w v Q, RdR K H x u → RdR K H y w → f x y = some v → NewQ K H v Q → r u w H Q
def UnD (K : PySem.W.Frag) (r : V → Hp → VK → Prop) (f : D → Option Vl) : Prop := ∀ H x u v Q, RdR K H x u → f x = some v → NewQ K H v Q → r u H Q
theorem NewQ.imm {H : Hp} {d : D} {Q : VK} {u : V} (h : NewQ K H (.imm d) Q) (r : RI K H d u) : Q u H := h u H (fun _ => False) r (Grow.refl fun _ z => z)
theorem NewQ.tup {H : Hp} {l : List D} {vs : List V} {p : Addr} {Q : VK} (h : NewQ K H (.imm (.tup l)) Q) (r : RIs K H l vs) (hp : H p = none) : Q (.ref p) (upd H p (.tup vs)) := by
  have g : Grow (fun _ => False) H (upd H p (.tup vs)) := ⟨fun b o e => by rw [upd_ne (ne_of_none e hp)]; exact e, fun _ z => z.elim⟩
  exact h _ _ (fun _ => False) ⟨p, vs, rfl, upd_same, r.mono g.ext⟩ g
theorem NewQ.lst {H : Hp} {l : List D} {vs : List V} {p : Addr} {Q : VK} (h : NewQ K H (.own (.lst l)) Q) (r : RIs K H l vs) (hp : H p = none) : Q (.ref p) (upd H p (.lst vs)) := by
  have g : Grow (fun a => a = p) H (upd H p (.lst vs)) := ⟨fun b o e => by rw [upd_ne (ne_of_none e hp)]; exact e, fun a z => z ▸ hp⟩
  exact h _ _ (fun a => a = p) ⟨⟨p, vs, rfl, rfl, upd_same, r.mono g.ext⟩, fun a z => by rw [z, upd_same]; exact fun z => nomatch z⟩ g
/-- behind an operation: its value comes -/
theorem PostO.new {P : Nat → Option V} {σ : St} {H : Hp} {F : Nat → FS} {ρ : Env} {Q : VK} {v : Vl} (E : EnvR K P H F ρ σ) (h : PostO K mg P W σ (VlR K σ) Q F H (.ok v ρ)) : NewQ K H v Q := fun u H' S r g =>
  h u H' F S (E.grow g) r.vl (fun i a z s => E.dom i a z (g.new a s)) (Frm.of_grow g)
theorem sd_bin {r : R2} {f : D → D → Option Vl} {ta tb : TE} {a b : SE} (ho : OpD K r f) (ha : SdE K mg W ta a) (hb : SdE K mg W tb b) : SdE K mg W (tOp r ta tb) (eBin f a b) := by
  intro P σ H F ρ Q E h
  refine ha P σ H F ρ _ E ?_
  unfold eBin at h
  cases ea : a ρ with
  | fail => rw [ea] at h; exact h
  | exc x ρ1 => rw [ea] at h; exact h
  | ok va ρ1 =>
    rw [ea] at h
    intro u1 H1 F1 S1 E1 R1 dj1 f1
    refine hb P σ H1 F1 ρ1 _ E1 ?_
    rw [Out.bind_ok] at h
    cases eb : b ρ1 with
    | fail => rw [eb] at h; exact h
    | exc x ρ2 => rw [eb] at h; exact h.from f1
    | ok vb ρ2 =>
      rw [eb, Out.bind_ok] at h
      intro u2 H2 F2 S2 E2 R2 dj2 f2
      have R1' := R1.keep dj1 f2
      cases e1 : rd ρ2 va with
      | none => rw [e1] at h; exact h.elim
      | some x =>
        cases e2 : rd ρ2 vb with
        | none => rw [e1, e2] at h; exact h.elim
        | some y =>
          rw [e1, e2] at h
          cases e3 : f x y with
          | none => simp only [e3] at h; exact h.elim
          | some v =>
            simp only [e3] at h
            exact ho H2 x y u1 u2 v _ (rd_ok E2 R1' e1) (rd_ok E2 R2 e2) e3 (PostO.new E2 ((h.from f1).from f2))
theorem sd_un {r : V → Hp → VK → Prop} {f : D → Option Vl} {ta : TE} {a : SE} (ho : UnD K r f) (ha : SdE K mg W ta a) : SdE K mg W (fun σ H Q => ta σ H fun x H1 => r x H1 Q) (eUn f a) := by
  intro P σ H F ρ Q E h
  refine ha P σ H F ρ _ E ?_
  unfold eUn at h
  cases ea : a ρ with
  | fail => rw [ea] at h; exact h
  | exc x ρ1 => rw [ea] at h; exact h
  | ok va ρ1 =>
    rw [ea] at h
    rw [Out.bind_ok] at h
    intro u1 H1 F1 S1 E1 R1 dj1 f1
    cases e1 : rd ρ1 va with
    | none => rw [e1] at h; exact h.elim
    | some x =>
      rw [e1] at h
      cases e3 : f x with
      | none => simp only [e3] at h; exact h.elim
      | some v =>
        simp only [e3] at h
        exact ho H1 x u1 v _ (rd_ok E1 R1 e1) e3 (PostO.new E1 (h.from f1))

/-! ### operators -/
theorem OpR.or {f : Value → Value → Sem Value} {r r' : R2} (h : OpR X f r) (h' : OpR X f r') : OpR X f (fun x y H Q => r x y H Q ∨ r' x y H Q) := by
  intro pins s σ H x y v u Q I rx ry q
  rcases q with q | q
  · exact h pins s σ H x y v u Q I rx ry q
  · exact h' pins s σ H x y v u Q I rx ry q
theorem CallR.or {f : Value} {r r' : List V → Hp → VK → Prop} (h : CallR X f r) (h' : CallR X f r') : CallR X f (fun x H Q => r x H Q ∨ r' x H Q) := by
  intro pins s σ H x u Q I rx q
  rcases q with q | q
  · exact h pins s σ H x u Q I rx q
  · exact h' pins s σ H x u Q I rx q
def big : Nat := 1000000
theorem big_line {n : Nat} (h : n ≤ big) : n ≤ sizeLine := Nat.le_trans h (by rw [sizeLine_eq]; decide)
theorem RIs.length {H : Hp} : ∀ {l : List D} {vs : List V}, RIs K H l vs → vs.length = l.length
  | [], _, h => by cases h; rfl
  | _ :: _, _, ⟨_, _, e, _, h⟩ => by rw [e, List.length_cons, List.length_cons, RIs.length h]
theorem RIs.get {H : Hp} : ∀ {l : List D} {vs : List V} {i : Nat} {d : D}, RIs K H l vs → l[i]? = some d → ∃ v, vs[i]? = some v ∧ RI K H d v
  | [], _, _, _, _, h => by simp at h
  | _ :: _, _, 0, _, ⟨v, _, e, r, _⟩, h => by simp at h; subst h; exact ⟨v, by rw [e]; rfl, r⟩
  | _ :: _, _, i + 1, _, ⟨_, _, e, _, r⟩, h => by
    obtain ⟨v, h1, h2⟩ := RIs.get (i := i) r (by simpa using h)
    exact ⟨v, by rw [e]; simpa using h1, h2⟩
theorem RIs.app {H : Hp} : ∀ {l m : List D} {vs ws : List V}, RIs K H l vs → RIs K H m ws → RIs K H (l ++ m) (vs ++ ws)
  | [], _, _, _, h, k => by cases h; exact k
  | _ :: _, _, _, _, ⟨v, r, e, q, h⟩, k => ⟨v, _, by rw [e]; rfl, q, RIs.app h k⟩
theorem RIs.take {H : Hp} : ∀ {l : List D} {vs : List V} (n : Nat), RIs K H l vs → RIs K H (l.take n) (vs.take n)
  | _, _, 0, _ => by simp [RIs]
  | [], _, _ + 1, h => by cases h; rfl
  | _ :: _, _, n + 1, ⟨v, r, e, q, h⟩ => ⟨v, r.take n, by rw [e]; rfl, q, RIs.take n h⟩
theorem RIs.drop {H : Hp} : ∀ {l : List D} {vs : List V} (n : Nat), RIs K H l vs → RIs K H (l.drop n) (vs.drop n)
  | _, _, 0, h => h
  | [], _, _ + 1, h => by cases h; rfl
  | _ :: _, _, n + 1, ⟨v, r, e, q, h⟩ => by rw [e]; exact RIs.drop n h
theorem mkS_length (l : List Nat) : (mkS l).length = l.length := by simp [mkS, Str.length]
theorem mkS_app (l m : List Nat) : mkS l ++ mkS m = mkS (l ++ m) := by
  show Str.append _ _ = _
  simp [Str.append, mkS]
/-- a + b -/
def addD : D → D → Option Vl
  | .int i, .int j => some (.imm (.int (i + j)))
  | .str s, .str t => if s.length + t.length ≤ big then some (.imm (.str (s ++ t))) else none
  | _, _ => none
def subD : D → D → Option Vl
  | .int i, .int j => some (.imm (.int (i - j)))
  | _, _ => none
theorem op_addD : ∃ r, OpR X (binaryOp .Add) r ∧ OpD X.K r addD := by
  refine ⟨_, OpR.or op_add op_add_str, fun H x y u w v Q rx ry e q => ?_⟩
  unfold addD at e
  split at e
  · cases e; cases rx; cases ry
    exact .inl ⟨_, _, rfl, rfl, q.imm rfl⟩
  · split at e
    · rename_i hl
      cases e; cases rx; cases ry
      refine .inr ⟨_, _, rfl, rfl, ?_, ?_⟩
      · rw [mkS_length, mkS_length]; exact big_line hl
      · rw [mkS_app]; exact q.imm rfl
    · cases e
  · cases e
theorem op_subD : ∃ r, OpR X (binaryOp .Sub) r ∧ OpD X.K r subD := by
  refine ⟨_, op_sub, fun H x y u w v Q rx ry e q => ?_⟩
  unfold subD at e
  split at e
  · cases e; cases rx; cases ry
    exact ⟨_, _, rfl, rfl, q.imm rfl⟩
  · cases e
theorem pd_op {op : Operator} {f : D → D → Option Vl} {a b : Expr} {sa sb : SE} {pos : Pos} (h : ∃ r, OpR X (binaryOp op) r ∧ OpD X.K r f) (ha : PEd X W a sa) (hb : PEd X W b sb) : PEd X W (.BinOp a op b pos) (eBin f sa sb) := by
  obtain ⟨r, h1, h2⟩ := h
  obtain ⟨ta, a1, a2⟩ := ha
  obtain ⟨tb, b1, b2⟩ := hb
  exact ⟨_, pe_op h1 a1 b1, sd_bin h2 a2 b2⟩
theorem pd_cmp {op : CmpOp} {f : D → D → Option Vl} {a b : Expr} {sa sb : SE} {pos : Pos} (h : ∃ r, OpR X (compareOp op) r ∧ OpD X.K r f) (ha : PEd X W a sa) (hb : PEd X W b sb) (hm : behindInMarks op b = false := by first | rfl | exact nomark _) :
    PEd X W (.Compare a [op] [b] pos) (eBin f sa sb) := by
  obtain ⟨r, h1, h2⟩ := h
  obtain ⟨ta, a1, a2⟩ := ha
  obtain ⟨tb, b1, b2⟩ := hb
  exact ⟨_, pe_cmpR h1 a1 b1 hm, sd_bin h2 a2 b2⟩
end
end PF

namespace PF
open PySem L2
section
variable {X : Cx} {W : WX} {K : PySem.W.Frag} {mg : Str → Option Value}

/-! ### what is handed on for good is not written any more -/
def tFrz (te : TE) : TE := fun σ H Q => te σ H fun u H1 => Q u H1 ∨ ∃ a o, u = .ref a ∧ H1 a = some o ∧ Mut (some o) ∧ ∀ od, Q u (upd H1 a (.frz od o))
theorem pe_frz {e : Expr} {t : TE} (h : PE X e t) : PE X e (tFrz t) := by
  refine ⟨fun pins s σ H Q I hw => thn (h.run pins s σ H _ I hw) fun v s1 hh => ?_⟩
  obtain ⟨x, H1, I1, r, q⟩ := hh
  rcases q with q | ⟨a, o, e, ha, mu, q⟩
  · exact ⟨x, H1, I1, r, q⟩
  · obtain ⟨od, I2⟩ := I1.lock ha mu
    exact ⟨x, _, I2, r, q od⟩
def fzb : D → Bool
  | .lst _ => true | .dct _ => true | .dcT _ => true | _ => false
def frzV : Vl → Env → Out Vl
  | .imm d, ρ => .ok (.imm d) ρ
  | .own d, ρ => if fzb d then .ok (.imm d) ρ else .fail
  | .ref i, ρ => match ρ[i]? with
    | some (.imm d) => .ok (.imm d) ρ
    | some (.own d) => if fzb d then .ok (.imm d) (ρ.set i (.imm d)) else .fail
    | _ => .fail
def eFrz (a : SE) : SE := fun ρ => (a ρ).bind frzV
theorem frz_own {H : Hp} {S : FS} {d : D} {u : V} (h : OwnR K H S d u) (hf : fzb d = true) : ∃ a o, u = .ref a ∧ S a ∧ H a = some o ∧ Mut (some o) ∧ (∀ b xs, H b = some (.tup xs) → b ≠ a) ∧ (∀ b o u, H b = some (.frz o u) → b ≠ a) ∧
    ∀ od, RI K (upd H a (.frz od o)) d u := by
  have e : ∀ {a o od}, H a = some o → Mut (some o) → (∀ b xs, H b = some (.tup xs) → b ≠ a) ∧ (∀ b o u, H b = some (.frz o u) → b ≠ a) ∧ Ext H (upd H a (.frz od o)) := fun {a o od} ha mu => by
    have n1 : ∀ b xs, H b = some (.tup xs) → b ≠ a := fun b xs q z => by rw [z, ha] at q; cases q; exact mu
    have n2 : ∀ b o u, H b = some (.frz o u) → b ≠ a := fun b o u q z => by rw [z, ha] at q; cases q; exact mu
    exact ⟨n1, n2, fun b xs q => by rw [upd_ne (n1 b xs q)]; exact q, fun b o u q => by rw [upd_ne (n2 b o u q)]; exact q⟩
  cases d with
  | lst l =>
    obtain ⟨a, vs, h1, s, h2, h3⟩ := h
    have z := e (od := default) h2 trivial
    exact ⟨a, _, h1, s, h2, trivial, z.1, z.2.1, fun od => ⟨a, vs, h1, .inl ⟨od, upd_same⟩, h3.mono (e h2 trivial).2.2⟩⟩
  | dct l =>
    obtain ⟨a, vs, h1, s, h2, h3⟩ := h
    have z := e (od := default) h2 trivial
    exact ⟨a, _, h1, s, h2, trivial, z.1, z.2.1, fun od => ⟨a, od, vs, h1, upd_same, h3.mono (e h2 trivial).2.2⟩⟩
  | dcT l =>
    obtain ⟨a, vs, h1, s, h2, h3⟩ := h
    have z := e (od := default) h2 trivial
    exact ⟨a, _, h1, s, h2, trivial, z.1, z.2.1, fun od => ⟨a, od, vs, h1, upd_same, h3.mono (e h2 trivial).2.2⟩⟩
  | _ => cases hf
theorem Frm.upd1 {U : FS} {H : Hp} {a : Addr} {o : HO} (hU : U a) (h : H a ≠ none) (n1 : ∀ b xs, H b = some (.tup xs) → b ≠ a) (n2 : ∀ b o u, H b = some (.frz o u) → b ≠ a) : Frm U U H (upd H a o) where
  keep := fun b o' n e => by
    have hne : b ≠ a := fun z => n (by rw [z]; exact hU)
    rw [upd_ne hne]; exact e
  ext := ⟨fun b xs q => by rw [upd_ne (n1 b xs q)]; exact q, fun b o u q => by rw [upd_ne (n2 b o u q)]; exact q⟩
  dom := fun b q => by
    by_cases z : b = a
    · rw [z, upd_same]; exact fun z => nomatch z
    · rw [upd_ne z]; exact q
  sub := fun b q => .inl q
theorem List.set_get_ne {α : Type} {l : List α} {i j : Nat} {x : α} (h : j ≠ i) : (l.set i x)[j]? = l[j]? := List.getElem?_set_ne (Ne.symm h)
/-- slot i gets another content; what stood in it is let go -/
theorem EnvR.put {P : Nat → Option V} {H : Hp} {F : Nat → FS} {ρ : Env} {σ : St} (E : EnvR K P H F ρ σ) {i : Nat} {s : Sl} {o : Option V} {S : FS} (hi : i < ρ.length) (hs : SlR K H S (P i) s o) (dj : ∀ j a, F j a → ¬ S a) (dm : ∀ a, S a → H a ≠ none) :
    EnvR K P H (fun j a => (j = i ∧ S a) ∨ (j ≠ i ∧ F j a)) (ρ.set i s) (σ.set i o) where
  len := by rw [List.length_set, List.length_set]; exact E.len
  sl := fun j t h => by
    by_cases e : j = i
    · subst e
      rw [List.getElem?_set_self hi] at h
      cases h
      rw [List.getElem?_set_self (by rw [E.len]; exact hi)]
      cases s with
      | non => trivial
      | imm d => exact hs
      | own d => obtain ⟨v, h1, h2⟩ := hs; exact ⟨v, h1, h2.more fun b z => .inl ⟨rfl, z⟩⟩
      | par d => obtain ⟨v, h1, h0, h2⟩ := hs; exact ⟨v, h1, h0, h2.more fun b z => .inl ⟨rfl, z⟩⟩
    · rw [List.set_get_ne e] at h
      rw [List.set_get_ne e]
      have z := E.sl j t h
      cases t with
      | non => trivial
      | imm d => exact z
      | own d => obtain ⟨v, h1, h2⟩ := z; exact ⟨v, h1, h2.more fun b z => .inr ⟨e, z⟩⟩
      | par d => obtain ⟨v, h1, h0, h2⟩ := z; exact ⟨v, h1, h0, h2.more fun b z => .inr ⟨e, z⟩⟩
  dj := fun j k a h1 h2 => by
    rcases h1 with ⟨e1, s1⟩ | ⟨e1, s1⟩ <;> rcases h2 with ⟨e2, s2⟩ | ⟨e2, s2⟩
    · rw [e1, e2]
    · exact absurd s1 (dj k a s2)
    · exact absurd s2 (dj j a s1)
    · exact E.dj j k a s1 s2
  dom := fun j a h => by
    rcases h with ⟨_, s⟩ | ⟨_, s⟩
    · exact dm a s
    · exact E.dom j a s
theorem Un.put {F : Nat → FS} {i : Nat} {S : FS} {a : Addr} (h : Un (fun j a => (j = i ∧ S a) ∨ (j ≠ i ∧ F j a)) a) : Un F a ∨ S a := by
  obtain ⟨j, ⟨_, z⟩ | ⟨_, z⟩⟩ := h
  · exact .inr z
  · exact .inl ⟨j, z⟩
theorem set_same {α : Type} {l : List α} {i : Nat} {x : α} (h : l[i]? = some x) : l.set i x = l := by
  apply List.ext_getElem?
  intro j
  by_cases e : j = i
  · subst e
    obtain ⟨hl, _⟩ := List.getElem?_eq_some_iff.mp h
    rw [List.getElem?_set_self hl, h]
  · rw [List.getElem?_set_ne (Ne.symm e)]
theorem lt_of_get {α : Type} {l : List α} {i : Nat} {x : α} (h : l[i]? = some x) : i < l.length := (List.getElem?_eq_some_iff.mp h).1
/-- an object of slot i is written -/
theorem EnvR.wr {P : Nat → Option V} {H : Hp} {F : Nat → FS} {ρ : Env} {σ : St} (E : EnvR K P H F ρ σ) {i : Nat} {a : Addr} {o : HO} {s : Sl} (hi : i < ρ.length) (hF : F i a) (n1 : ∀ b xs, H b = some (.tup xs) → b ≠ a) (n2 : ∀ b o u, H b = some (.frz o u) → b ≠ a)
    (hs : SlR K (upd H a o) (F i) (P i) s σ[i]?.join) : EnvR K P (upd H a o) F (ρ.set i s) σ where
  len := by rw [List.length_set]; exact E.len
  sl := fun j t h => by
    by_cases e : j = i
    · subst e
      rw [List.getElem?_set_self hi] at h
      cases h
      exact hs
    · rw [List.set_get_ne e] at h
      refine (E.sl j t h).keep (fun b o' q r => ?_) (Frm.upd1 (U := fun _ => True) trivial (E.dom i a hF) n1 n2).ext
      have hne : b ≠ a := fun z => e (E.dj j i a (by rw [← z]; exact q) hF)
      rw [upd_ne hne]
      exact r
  dj := E.dj
  dom := fun j b h => by
    by_cases z : b = a
    · rw [z, upd_same]; exact fun z => nomatch z
    · rw [upd_ne z]; exact E.dom j b h
theorem sd_frz {te : TE} {a : SE} (ha : SdE K mg W te a) : SdE K mg W (tFrz te) (eFrz a) := by
  intro P σ H F ρ Q E h
  refine ha P σ H F ρ _ E ?_
  unfold eFrz at h
  cases ea : a ρ with
  | fail => rw [ea] at h; exact h
  | exc x ρ1 => rw [ea] at h; exact h
  | ok v ρ1 =>
    rw [ea, Out.bind_ok] at h
    intro u H1 F1 S1 E1 R1 dj1 f1
    cases v with
    | imm d => exact .inl (h u H1 F1 (fun _ => False) E1 R1 (fun _ _ _ z => z) (f1.less fun b z => z.elim .inl False.elim))
    | own d =>
      unfold frzV at h
      dsimp only at h
      split at h
      · rename_i hf
        obtain ⟨r, dm⟩ := R1
        obtain ⟨a', o, e, sa, ha', mu, n1, n2, q⟩ := frz_own r hf
        refine .inr ⟨a', o, e, ha', mu, fun od => ?_⟩
        have fr : Frm (fun a => Un F1 a ∨ S1 a) (fun a => Un F1 a ∨ S1 a) H1 (upd H1 a' (.frz od o)) := Frm.upd1 (.inr sa) (dm a' sa) n1 n2
        refine h u _ F1 (fun _ => False) (E1.keep (fun b o' hb r => ?_) fr.ext fr.dom) (q od) (fun _ _ _ z => z) ((f1.trans fr).less fun b z => z.elim .inl False.elim)
        have hne : b ≠ a' := fun z => by
          obtain ⟨i, hb⟩ := hb
          exact dj1 i a' (by rw [← z]; exact hb) sa
        rw [upd_ne hne]
        exact r
      · exact h.elim
    | ref i =>
      have R1' : σ[i]? = some (some u) := R1
      unfold frzV at h
      dsimp only at h
      split at h
      · rename_i d q
        have z := E1.sl i _ q
        rw [R1'] at z
        obtain ⟨v, e, r⟩ := z
        cases e
        exact .inl (h u H1 F1 (fun _ => False) E1 r (fun _ _ _ z => z) (f1.less fun b z => z.elim .inl False.elim))
      · rename_i d q
        split at h
        · rename_i hf
          have z := E1.sl i _ q
          rw [R1'] at z
          obtain ⟨v, e, r⟩ := z
          cases e
          obtain ⟨a', o, e, sa, ha', mu, n1, n2, q'⟩ := frz_own r hf
          refine .inr ⟨a', o, e, ha', mu, fun od => ?_⟩
          have fr : Frm (Un F1) (Un F1) H1 (upd H1 a' (.frz od o)) := Frm.upd1 ⟨i, sa⟩ (E1.dom i a' sa) n1 n2
          have E2 := E1.wr (i := i) (a := a') (o := .frz od o) (s := .imm d) (lt_of_get q) sa n1 n2 (by rw [R1']; exact ⟨_, rfl, q' od⟩)
          exact h u _ F1 (fun _ => False) E2 (q' od) (fun _ _ _ z => z) (((f1.less fun b z => .inl z).trans fr).less fun b z => z.elim id False.elim)
        · exact h.elim
      · exact h.elim
theorem pd_frz {e : Expr} {a : SE} (h : PEd X W e a) : PEd X W e (eFrz a) := by
  obtain ⟨te, h1, h2⟩ := h
  exact ⟨_, pe_frz h1, sd_frz h2⟩

/-! ### argument lists, displays -/
def aNil : SA := fun ρ => .ok [] ρ
def aCons (a : SE) (b : SA) : SA := fun ρ => (a ρ).bind fun v ρ1 => match v with
  | .own _ => .fail
  | v => (b ρ1).bind fun vs ρ2 => .ok (v :: vs) ρ2
theorem AsR.keep {σ : St} {H H' : Hp} (e : Ext H H') : ∀ {vs : List Vl} {us : List V}, AsR K σ H vs us → AsR K σ H' vs us
  | [], _, h => h
  | .own _ :: _, _, h => h.elim
  | .imm d :: l, _, ⟨u, r, h1, h2, h3⟩ => ⟨u, r, h1, RI.mono e h2, AsR.keep e h3⟩
  | .ref i :: l, _, ⟨u, r, h1, h2, h3⟩ => ⟨u, r, h1, h2, AsR.keep e h3⟩
theorem sa_nil : SdA K mg W tNil aNil := fun P σ H F ρ Q E h => h [] H F (fun _ => False) E rfl (fun _ _ _ z => z) (Frm.refl _ _ |>.less fun b z => z.elim id False.elim)
theorem sa_cons {ta : TE} {tb : TA} {a : SE} {b : SA} (ha : SdE K mg W ta a) (hb : SdA K mg W tb b) : SdA K mg W (tCons ta tb) (aCons a b) := by
  intro P σ H F ρ Q E h
  refine ha P σ H F ρ _ E ?_
  unfold aCons at h
  cases ea : a ρ with
  | fail => rw [ea] at h; exact h
  | exc x ρ1 => rw [ea] at h; exact h
  | ok v ρ1 =>
    rw [ea, Out.bind_ok] at h
    intro u1 H1 F1 S1 E1 R1 dj1 f1
    have main : ∀ (R : ∀ H', Ext H1 H' → VlR K σ H' (fun _ => False) v u1), (∀ d, v ≠ .own d) → PostO K mg P W σ (fun H _ => AsR K σ H) Q F H ((b ρ1).bind fun vs ρ2 => .ok (v :: vs) ρ2) → tb σ H1 fun xs H2 => Q (u1 :: xs) H2 := fun R hn h => by
      refine hb P σ H1 F1 ρ1 _ E1 ?_
      cases eb : b ρ1 with
      | fail => rw [eb] at h; exact h
      | exc x ρ2 => rw [eb] at h; exact h.from f1
      | ok vs ρ2 =>
        rw [eb, Out.bind_ok] at h
        intro us H2 F2 S2 E2 R2 dj2 f2
        refine h (u1 :: us) H2 F2 (fun _ => False) E2 ?_ (fun _ _ _ z => z) ((f1.step f2).less fun b z => z.elim .inl False.elim)
        cases v with
        | own d => exact absurd rfl (hn d)
        | imm d => exact ⟨u1, us, rfl, R H2 f2.ext, R2⟩
        | ref i => exact ⟨u1, us, rfl, R H2 f2.ext, R2⟩
    cases v with
    | own d => exact h.elim
    | imm d => exact main (fun H' e => RI.mono e R1) (fun _ z => nomatch z) h
    | ref i => exact main (fun H' e => R1) (fun _ z => nomatch z) h
theorem pad_nil : PAd X W [] aNil := ⟨_, pa_nil, sa_nil⟩
theorem pad_cons {e : Expr} {es : List Expr} {a : SE} {b : SA} (h1 : PEd X W e a) (h2 : PAd X W es b) (hs : starEach (e :: es) X.env = (false, eval e X.env) :: starEach es X.env := by rfl) : PAd X W (e :: es) (aCons a b) := by
  obtain ⟨ta, a1, a2⟩ := h1
  obtain ⟨tb, b1, b2⟩ := h2
  exact ⟨_, pa_cons a1 b1 hs, sa_cons a2 b2⟩
def imms : List Vl → Option (List D)
  | [] => some []
  | .imm d :: l => (imms l).map (d :: ·)
  | _ :: _ => none
theorem imms_ok {σ : St} {H : Hp} : ∀ {vs : List Vl} {us : List V} {l : List D}, imms vs = some l → AsR K σ H vs us → RIs K H l us
  | [], _, _, e, h => by cases e; exact h
  | .own _ :: _, _, _, e, h => h.elim
  | .ref _ :: _, _, _, e, h => nomatch e
  | .imm d :: r, _, l, e, ⟨u, us, h1, h2, h3⟩ => by
    unfold imms at e
    cases q : imms r with
    | none => rw [q] at e; cases e
    | some m => rw [q] at e; cases e; exact ⟨u, us, h1, h2, imms_ok q h3⟩
def eArgs (f : List D → Option Vl) (a : SA) : SE := fun ρ => (a ρ).bind fun vs ρ1 => match imms vs with
  | some l => match f l with
    | some v => .ok v ρ1
    | none => .fail
  | none => .fail
/-- a call of what is known, by what is written -/
def ArD (K : PySem.W.Frag) (r : List V → Hp → VK → Prop) (f : List D → Option Vl) : Prop := ∀ H l us v Q, RIs K H l us → f l = some v → NewQ K H v Q → r us H Q
theorem sd_args {r : List V → Hp → VK → Prop} {f : List D → Option Vl} {ta : TA} {a : SA} (ho : ArD K r f) (ha : SdA K mg W ta a) : SdE K mg W (fun σ H Q => ta σ H fun vs H1 => r vs H1 Q) (eArgs f a) := by
  intro P σ H F ρ Q E h
  refine ha P σ H F ρ _ E ?_
  unfold eArgs at h
  cases ea : a ρ with
  | fail => rw [ea] at h; exact h
  | exc x ρ1 => rw [ea] at h; exact h
  | ok vs ρ1 =>
    rw [ea, Out.bind_ok] at h
    intro us H1 F1 S1 E1 R1 dj1 f1
    cases e1 : imms vs with
    | none => rw [e1] at h; exact h.elim
    | some l =>
      rw [e1] at h
      cases e3 : f l with
      | none => simp only [e3] at h; exact h.elim
      | some v =>
        simp only [e3] at h
        exact ho H1 l us v _ (imms_ok e1 R1) e3 (PostO.new E1 (h.from f1))
def tupD : List D → Option Vl := fun l => if l.length ≤ big then some (.imm (.tup l)) else none
def lstD : List D → Option Vl := fun l => if l.length ≤ big then some (.own (.lst l)) else none
theorem pd_tup {es : List Expr} {a : SA} {x1 pos} (h : PAd X W es a) : PEd X W (.Tuple es x1 pos) (eArgs tupD a) := by
  obtain ⟨ta, a1, a2⟩ := h
  refine ⟨_, pe_tup a1, sd_args (r := fun xs H1 Q => xs.length ≤ sizeLine ∧ ∀ p, H1 p = none → Q (.ref p) (upd H1 p (.tup xs))) (fun H l us v Q r e q => ?_) a2⟩
  unfold tupD at e
  split at e
  · rename_i hl
    cases e
    exact ⟨big_line (by rw [r.length]; exact hl), fun p hp => q.tup r hp⟩
  · cases e
theorem pd_lst {es : List Expr} {a : SA} {pos} (h : PAd X W es a) : PEd X W (.List es pos) (eArgs lstD a) := by
  obtain ⟨ta, a1, a2⟩ := h
  refine ⟨_, pe_lst a1, sd_args (r := fun xs H1 Q => xs.length ≤ sizeLine ∧ ∀ p, H1 p = none → Q (.ref p) (upd H1 p (.lst xs))) (fun H l us v Q r e q => ?_) a2⟩
  unfold lstD at e
  split at e
  · rename_i hl
    cases e
    exact ⟨big_line (by rw [r.length]; exact hl), fun p hp => q.lst r hp⟩
  · cases e
end

/-! ### defs -/
inductive Ar where
  | imm (d : D) | mt (d : D)
inductive FOut where
  | ret (r : Vl) (as : List Ar) | exc (x : Xc) (as : List Ar) | fail
def ArV (K : PySem.W.Frag) (H : Hp) (S : FS) : Ar → V → Prop
  | .imm d, v => RI K H d v
  | .mt d, v => OwnR K H S d v
structure ArR (K : PySem.W.Frag) (H : Hp) (F : Nat → FS) (as : List Ar) (vs : List V) : Prop where
  len : vs.length = as.length
  sl : ∀ i a, as[i]? = some a → ∃ v, vs[i]? = some v ∧ ArV K H (F i) a v
  dj : ∀ i j a, F i a → F j a → i = j
  dom : ∀ i a, F i a → H a ≠ none
def PostF (K : PySem.W.Frag) (mg : Str → Option Value) (vs : List V) (Q : VK) (E : XK) (F : Nat → FS) (H : Hp) : FOut → Prop
  | .ret r as' => ∀ u H' F' S, ArR K H' F' as' vs → VlN K H' S r u → (∀ i a, F' i a → ¬ S a) → Frm (Un F) (fun a => Un F' a ∨ S a) H H' → Q u H'
  | .exc x as' => ∀ cls d H' F', ArR K H' F' as' vs → XcR K mg H' x cls d → Frm (Un F) (Un F') H H' → E cls d H'
  | .fail => False
/-- a def's promise by its function -/
def fsp (K : PySem.W.Frag) (mg : Str → Option Value) (n : Nat) (g : List Ar → FOut) : Sp := fun vs H Q E => ∃ as F, as.length = n ∧ ArR K H F as vs ∧ PostF K mg vs Q E F H (g as)
theorem fsp_len {K : PySem.W.Frag} {mg : Str → Option Value} {n : Nat} {g : List Ar → FOut} {vs : List V} {H : Hp} {Q : VK} {E : XK} (h : fsp K mg n g vs H Q E) : vs.length = n := by
  obtain ⟨as, F, h1, h2, _⟩ := h
  rw [h2.len, h1]
def slOf : Ar → Sl
  | .imm d => .imm d
  | .mt d => .par d
def startE (n : Nat) (as : List Ar) : Env := as.map slOf ++ List.replicate (n - as.length) .non
def backs : List Ar → Env → Option (List Ar)
  | [], _ => some []
  | .imm d :: as, ρ => (backs as ρ.tail).map (.imm d :: ·)
  | .mt _ :: as, ρ => match ρ with
    | .par d :: ρ' => (backs as ρ').map (.mt d :: ·)
    | _ => none
def retV (ρ : Env) : Vl → Option Vl
  | .imm d => some (.imm d)
  | .own d => some (.own d)
  | .ref i => match ρ[i]? with
    | some (.own d) => some (.own d)
    | some (.imm d) => some (.imm d)
    | _ => none
/-- what a body comes to, from arguments -/
def runF (n : Nat) (body : SS) : List Ar → FOut := fun as => match body (startE n as) with
  | .nx ρ => match backs as ρ with
    | some bs => .ret (.imm .non) bs
    | none => .fail
  | .rt v ρ => match retV ρ v, backs as ρ with
    | some r, some bs => .ret r bs
    | _, _ => .fail
  | .exc x ρ => match backs as ρ with
    | some bs => .exc x bs
    | none => .fail
  | _ => .fail
section
variable {K : PySem.W.Frag} {mg : Str → Option Value}
theorem start_get {as : List Ar} {n i : Nat} {s : Sl} (h : (startE n as)[i]? = some s) : (∃ a, as[i]? = some a ∧ s = slOf a) ∨ (as.length ≤ i ∧ s = .non) := by
  unfold startE at h
  by_cases hi : i < as.length
  · rw [List.getElem?_append_left (by simpa using hi), List.getElem?_map] at h
    cases e : as[i]? with
    | none => rw [e] at h; cases h
    | some a => rw [e] at h; cases h; exact .inl ⟨a, rfl, rfl⟩
  · rw [List.getElem?_append_right (by simpa using hi), List.getElem?_replicate] at h
    split at h
    · cases h; exact .inr ⟨by omega, rfl⟩
    · cases h
theorem start_val {N : List Str} {vs : List V} {i : Nat} {v : V} (h : vs[i]? = some v) : (L2.start N vs)[i]? = some (some v) := by
  unfold L2.start
  rw [List.getElem?_append_left (by have := lt_of_get h; simpa using this), List.getElem?_map, h]
  rfl
theorem start_env {H : Hp} {F : Nat → FS} {as : List Ar} {vs : List V} {N : List Str} (A : ArR K H F as vs) (hl : as.length ≤ N.length) : EnvR K (fun i => vs[i]?) H F (startE N.length as) (L2.start N vs) where
  len := by
    unfold L2.start startE
    rw [List.length_append, List.length_append, List.length_map, List.length_map, List.length_replicate, List.length_replicate, A.len]
  sl := fun i s h => by
    rcases start_get h with ⟨a, ha, e⟩ | ⟨_, e⟩
    · obtain ⟨v, hv, r⟩ := A.sl i a ha
      rw [start_val hv]
      subst e
      cases a with
      | imm d => exact ⟨v, rfl, r⟩
      | mt d => exact ⟨v, rfl, hv, r⟩
    · subst e; trivial
  dj := A.dj
  dom := A.dom
theorem backs_len : ∀ {as : List Ar} {ρ : Env} {bs : List Ar}, backs as ρ = some bs → bs.length = as.length
  | [], _, _, h => by cases h; rfl
  | .imm d :: as, ρ, bs, h => by
    unfold backs at h
    cases q : backs as ρ.tail with
    | none => rw [q] at h; cases h
    | some r => rw [q] at h; cases h; simp [backs_len q]
  | .mt d :: as, ρ, bs, h => by
    unfold backs at h
    split at h
    · rename_i d' ρ'
      cases q : backs as ρ' with
      | none => rw [q] at h; cases h
      | some r => rw [q] at h; cases h; simp [backs_len q]
    · cases h
theorem backs_get : ∀ {as : List Ar} {ρ : Env} {bs : List Ar} {i : Nat} {b : Ar}, backs as ρ = some bs → bs[i]? = some b → (∃ d, as[i]? = some (.imm d) ∧ b = .imm d) ∨ ∃ d d', as[i]? = some (.mt d) ∧ ρ[i]? = some (.par d') ∧ b = .mt d'
  | [], _, _, _, _, h, e => by cases h; simp at e
  | .imm d :: as, ρ, bs, i, b, h, e => by
    unfold backs at h
    cases q : backs as ρ.tail with
    | none => rw [q] at h; cases h
    | some r =>
      rw [q] at h; cases h
      cases i with
      | zero => simp at e; exact .inl ⟨d, rfl, e.symm⟩
      | succ i =>
        rcases backs_get q (i := i) (b := b) (by simpa using e) with ⟨x, h1, h2⟩ | ⟨x, y, h1, h2, h3⟩
        · exact .inl ⟨x, by simpa using h1, h2⟩
        · refine .inr ⟨x, y, by simpa using h1, ?_, h3⟩
          cases ρ with
          | nil => simp at h2
          | cons s ρ => simpa using h2
  | .mt d :: as, ρ, bs, i, b, h, e => by
    unfold backs at h
    split at h
    · rename_i d' ρ'
      cases q : backs as ρ' with
      | none => rw [q] at h; cases h
      | some r =>
        rw [q] at h; cases h
        cases i with
        | zero => simp at e; exact .inr ⟨d, d', rfl, rfl, e.symm⟩
        | succ i =>
          rcases backs_get q (i := i) (b := b) (by simpa using e) with ⟨x, h1, h2⟩ | ⟨x, y, h1, h2, h3⟩
          · exact .inl ⟨x, by simpa using h1, h2⟩
          · exact .inr ⟨x, y, by simpa using h1, by simpa using h2, h3⟩
    · cases h
/-- what the arguments are behind a body -/
theorem backs_ok {H H' : Hp} {F F' : Nat → FS} {as bs : List Ar} {vs : List V} {ρ : Env} {σ : St} (A : ArR K H F as vs) (e : Ext H H') (E : EnvR K (fun i => vs[i]?) H' F' ρ σ) (h : backs as ρ = some bs) : ArR K H' F' bs vs where
  len := by rw [backs_len h]; exact A.len
  sl := fun i b q => by
    rcases backs_get h q with ⟨d, h1, h2⟩ | ⟨d, d', h1, h2, h3⟩
    · obtain ⟨v, hv, r⟩ := A.sl i _ h1
      subst h2
      exact ⟨v, hv, RI.mono e r⟩
    · obtain ⟨v, hv, hp, r⟩ := E.sl i _ h2
      subst h3
      exact ⟨v, hp, r⟩
  dj := E.dj
  dom := E.dom
/-- THE RULE of a def: its body by rules -/
theorem fn_okD {P : Program} {w : World} {base : Heap} {x qual : Str} {st : Stmt} {f : Addr} {fd : FuncData} {N ps : List Str} {k : Nat} {body : SS} (Fu : Fun K x qual st f fd) (S : FnScope N ps (defScope st))
    (hb : ∀ (X : Cx) (E : XK) (cdv : Value) (A : Around) (outer : List PySem.Env) (s : Shared) (H : Hp), X = cxOf (L2.CX P w) P w K mg base N qual (defScope st) f cdv A outer s H E → Ctx X (fun cls d _ H => E cls d H) k → PBd X (fun cls d _ H => E cls d H) (defBody st) body) :
    FnOk P w K mg base (L2.CX P w) (k + 1) f fd ps (fsp K mg ps.length (runF N.length body)) := by
  have hpl : ps.length ≤ N.length := by have := congrArg List.length S.pre; rw [List.length_take] at this; omega
  refine Fu.okX S (fun vs H Q E h => fsp_len h) fun cdv A outer s H vs Q E hr h => ?_
  obtain ⟨as, F, h1, h2, h3⟩ := h
  obtain ⟨t, t1, t2⟩ := hb _ E cdv A outer s H rfl ⟨takes_of rfl rfl rfl rfl, passes_of rfl, rfl, S.nd, hr⟩
  refine ⟨t, t1, ?_⟩
  refine t2 (fun i => vs[i]?) (L2.start N vs) H F (startE N.length as) _ (start_env h2 (by omega)) ?_
  unfold runF at h3
  cases eb : body (startE N.length as) with
  | nx ρ =>
    rw [eb] at h3
    dsimp only at h3
    cases q : backs as ρ with
    | none => rw [q] at h3; exact h3.elim
    | some bs =>
      rw [q] at h3
      exact fun σ' H' F' E' f' => h3 .non H' F' (fun _ => False) (backs_ok h2 f'.ext E' q) rfl (fun _ _ _ z => z) (f'.less fun b z => z.elim id False.elim)
  | rt v ρ =>
    rw [eb] at h3
    dsimp only at h3
    cases q : backs as ρ with
    | none =>
      rw [q] at h3
      cases q2 : retV ρ v with
      | none => rw [q2] at h3; exact h3.elim
      | some r => rw [q2] at h3; exact h3.elim
    | some bs =>
      rw [q] at h3
      intro u σ' H' F' S' E' R' dj' f'
      have main : ∀ r, retV ρ v = some r → ∃ F2 S2, ArR K H' F2 bs vs ∧ VlN K H' S2 r u ∧ (∀ i a, F2 i a → ¬ S2 a) ∧ ∀ a, (Un F2 a ∨ S2 a) → Un F' a ∨ S' a := fun r er => by
        have B := backs_ok h2 f'.ext E' q
        cases v with
        | imm d => cases er; exact ⟨F', S', B, R', dj', fun a z => z⟩
        | own d => cases er; exact ⟨F', S', B, R', dj', fun a z => z⟩
        | ref i =>
          have R2 : σ'[i]? = some (some u) := R'
          unfold retV at er
          dsimp only at er
          split at er
          · rename_i d qi
            cases er
            obtain ⟨v', e', r'⟩ := E'.sl i _ qi
            rw [R2] at e'
            cases e'
            refine ⟨fun j a => j ≠ i ∧ F' j a, F' i, ⟨B.len, fun j b hb => ?_, fun j k a z1 z2 => B.dj j k a z1.2 z2.2, fun j a z => B.dom j a z.2⟩, ⟨r', fun a z => E'.dom i a z⟩, fun j a z1 z2 => z1.1 (E'.dj j i a z1.2 z2), fun a z => ?_⟩
            · obtain ⟨v, hv, r⟩ := B.sl j b hb
              refine ⟨v, hv, ?_⟩
              cases b with
              | imm d => exact r
              | mt d' =>
                refine OwnR.more r fun a z => ⟨fun hj => ?_, z⟩
                subst hj
                rcases backs_get q hb with ⟨_, _, z⟩ | ⟨_, _, _, z, _⟩
                · cases z
                · rw [qi] at z; cases z
            · rcases z with ⟨j, z⟩ | z
              · exact .inl ⟨j, z.2⟩
              · exact .inl ⟨i, z⟩
          · rename_i d qi
            cases er
            obtain ⟨v', e', r'⟩ := E'.sl i _ qi
            rw [R2] at e'
            cases e'
            exact ⟨F', fun _ => False, B, r', fun _ _ _ z => z, fun a z => z.elim .inl False.elim⟩
          · cases er
      cases q2 : retV ρ v with
      | none => rw [q2] at h3; exact h3.elim
      | some r =>
        rw [q2] at h3
        obtain ⟨F2, S2, B, V2, dj2, sub⟩ := main r q2
        exact h3 u H' F2 S2 B V2 dj2 (f'.less sub)
  | exc x ρ =>
    rw [eb] at h3
    dsimp only at h3
    cases q : backs as ρ with
    | none => rw [q] at h3; exact h3.elim
    | some bs =>
      rw [q] at h3
      exact fun cls d σ' H' F' E' r f' => h3 cls d H' F' (backs_ok h2 f'.ext E' q) r f'
  | bk ρ => rw [eb] at h3; exact h3.elim
  | ct ρ => rw [eb] at h3; exact h3.elim
  | fail => rw [eb] at h3; exact h3.elim
end
end PF

namespace PF
open PySem L2

/-! ### a def called -/
def toAr (ρ : Env) : List Vl → Option (List Ar)
  | [] => some []
  | .imm d :: l => (toAr ρ l).map (Ar.imm d :: ·)
  | .own _ :: _ => none
  | .ref i :: l => match ρ[i]? with
    | some (.imm d) => (toAr ρ l).map (Ar.imm d :: ·)
    | some (.own d) => (toAr ρ l).map (Ar.mt d :: ·)
    | some (.par d) => (toAr ρ l).map (Ar.mt d :: ·)
    | _ => none
def posOf (i : Nat) : List Vl → Nat → Option Nat
  | [], _ => none
  | .ref k :: l, j => if k = i then some j else posOf i l (j + 1)
  | .imm _ :: l, j => posOf i l (j + 1)
  | .own _ :: l, j => posOf i l (j + 1)
def wb1 (as : List Ar) : Sl → Option Nat → Sl
  | s, none => s
  | .own _, some j => match as[j]? with
    | some (.mt d) => .own d
    | _ => .non
  | .par _, some j => match as[j]? with
    | some (.mt d) => .par d
    | _ => .non
  | s, some _ => s
def wbs (vs : List Vl) (as : List Ar) : Nat → Env → Env
  | _, [] => []
  | i, s :: ρ => wb1 as s (posOf i vs 0) :: wbs vs as (i + 1) ρ
def refsL : List Vl → List Nat
  | [] => []
  | .ref i :: l => i :: refsL l
  | .imm _ :: l => refsL l
  | .own _ :: l => refsL l
def ndB : List Nat → Bool
  | [] => true
  | a :: l => (l.all fun b => b != a) && ndB l
def eCall (g : List Ar → FOut) (a : SA) : SE := fun ρ => (a ρ).bind fun vs ρ1 => match toAr ρ1 vs with
  | none => .fail
  | some as => if ndB (refsL vs) then match g as with
      | .ret r bs => .ok r (wbs vs bs 0 ρ1)
      | .exc x bs => .exc x (wbs vs bs 0 ρ1)
      | .fail => .fail
    else .fail
theorem posOf_get {i : Nat} : ∀ {vs : List Vl} {k j : Nat}, posOf i vs k = some j → k ≤ j ∧ vs[j - k]? = some (.ref i)
  | [], _, _, h => nomatch h
  | .ref m :: l, k, j, h => by
    unfold posOf at h
    split at h
    · rename_i e; cases h; subst e; simp
    · obtain ⟨h1, h2⟩ := posOf_get (vs := l) h
      have e : j - k = (j - (k + 1)) + 1 := by omega
      exact ⟨by omega, by rw [e]; simpa using h2⟩
  | .imm m :: l, k, j, h => by
    unfold posOf at h
    obtain ⟨h1, h2⟩ := posOf_get (vs := l) h
    have e : j - k = (j - (k + 1)) + 1 := by omega
    exact ⟨by omega, by rw [e]; simpa using h2⟩
  | .own m :: l, k, j, h => by
    unfold posOf at h
    obtain ⟨h1, h2⟩ := posOf_get (vs := l) h
    have e : j - k = (j - (k + 1)) + 1 := by omega
    exact ⟨by omega, by rw [e]; simpa using h2⟩
theorem refsL_mem {i : Nat} : ∀ {vs : List Vl} {j : Nat}, vs[j]? = some (.ref i) → i ∈ refsL vs
  | [], _, h => by simp at h
  | .ref m :: l, 0, h => by simp at h; subst h; exact List.mem_cons_self
  | .imm m :: l, 0, h => by simp at h
  | .own m :: l, 0, h => by simp at h
  | .ref m :: l, j + 1, h => List.mem_cons_of_mem _ (refsL_mem (j := j) (by simpa using h))
  | .imm m :: l, j + 1, h => refsL_mem (vs := l) (j := j) (by simpa using h)
  | .own m :: l, j + 1, h => refsL_mem (vs := l) (j := j) (by simpa using h)
theorem nd_one {i : Nat} : ∀ {vs : List Vl} {j k : Nat}, ndB (refsL vs) = true → vs[j]? = some (.ref i) → vs[k]? = some (.ref i) → j = k
  | [], _, _, _, h, _ => by simp at h
  | v :: l, j, k, nd, h1, h2 => by
    have tl : ndB (refsL l) = true ∧ (∀ m, v = .ref m → m ∉ refsL l) := by
      cases v with
      | imm d => exact ⟨nd, fun m z => nomatch z⟩
      | own d => exact ⟨nd, fun m z => nomatch z⟩
      | ref m =>
        have nd' : ((refsL l).all (fun b => b != m) && ndB (refsL l)) = true := nd
        rw [Bool.and_eq_true] at nd'
        refine ⟨nd'.2, fun m' z hm => ?_⟩
        cases z
        have := List.all_eq_true.mp nd'.1 m hm
        simp at this
    cases j with
    | zero =>
      cases k with
      | zero => rfl
      | succ k =>
        have e : v = .ref i := by simpa using h1
        exact absurd (refsL_mem (vs := l) (j := k) (by simpa using h2)) (tl.2 i e)
    | succ j =>
      cases k with
      | zero =>
        have e : v = .ref i := by simpa using h2
        exact absurd (refsL_mem (vs := l) (j := j) (by simpa using h1)) (tl.2 i e)
      | succ k => rw [nd_one (vs := l) (j := j) (k := k) tl.1 (by simpa using h1) (by simpa using h2)]
theorem posOf_some {i : Nat} : ∀ {vs : List Vl} {j : Nat} (k : Nat), vs[j]? = some (.ref i) → ∃ m, posOf i vs k = some m
  | [], _, _, h => by simp at h
  | .ref m :: l, 0, k, h => by simp at h; subst h; exact ⟨k, by unfold posOf; rw [if_pos rfl]⟩
  | .imm m :: l, 0, k, h => by simp at h
  | .own m :: l, 0, k, h => by simp at h
  | .ref m :: l, j + 1, k, h => by
    unfold posOf
    split
    · exact ⟨k, rfl⟩
    · exact posOf_some (vs := l) (j := j) (k + 1) (by simpa using h)
  | .imm m :: l, j + 1, k, h => posOf_some (vs := l) (j := j) (k + 1) (by simpa using h)
  | .own m :: l, j + 1, k, h => posOf_some (vs := l) (j := j) (k + 1) (by simpa using h)
theorem wbs_get {vs : List Vl} {as : List Ar} : ∀ {ρ : Env} {k i : Nat}, (wbs vs as k ρ)[i]? = ρ[i]?.map fun s => wb1 as s (posOf (k + i) vs 0)
  | [], _, _ => by simp [wbs]
  | s :: ρ, k, 0 => by simp [wbs]
  | s :: ρ, k, i + 1 => by
    have e : k + (i + 1) = (k + 1) + i := by omega
    simp only [wbs, List.getElem?_cons_succ]
    rw [wbs_get (ρ := ρ), e]
theorem wbs_len {vs : List Vl} {as : List Ar} : ∀ {ρ : Env} {k : Nat}, (wbs vs as k ρ).length = ρ.length
  | [], _ => rfl
  | s :: ρ, k => by simp [wbs, wbs_len (ρ := ρ)]
theorem toAr_len {ρ : Env} : ∀ {vs : List Vl} {as : List Ar}, toAr ρ vs = some as → as.length = vs.length
  | [], _, h => by cases h; rfl
  | .imm d :: l, as, h => by
    unfold toAr at h
    cases q : toAr ρ l with
    | none => rw [q] at h; cases h
    | some r => rw [q] at h; cases h; simp [toAr_len q]
  | .own d :: l, as, h => nomatch h
  | .ref i :: l, as, h => by
    unfold toAr at h
    split at h <;> try (cases h; done)
    all_goals
      cases q : toAr ρ l with
      | none => rw [q] at h; cases h
      | some r => rw [q] at h; cases h; simp [toAr_len q]
theorem toAr_get {ρ : Env} : ∀ {vs : List Vl} {as : List Ar} {j : Nat} {a : Ar}, toAr ρ vs = some as → as[j]? = some a →
    (∃ d, vs[j]? = some (.imm d) ∧ a = .imm d) ∨ (∃ i d, vs[j]? = some (.ref i) ∧ ρ[i]? = some (.imm d) ∧ a = .imm d) ∨ ∃ i d, vs[j]? = some (.ref i) ∧ (ρ[i]? = some (.own d) ∨ ρ[i]? = some (.par d)) ∧ a = .mt d
  | [], _, _, _, h, e => by cases h; simp at e
  | .imm d :: l, as, j, a, h, e => by
    unfold toAr at h
    cases q : toAr ρ l with
    | none => rw [q] at h; cases h
    | some r =>
      rw [q] at h; cases h
      cases j with
      | zero => simp at e; exact .inl ⟨d, rfl, e.symm⟩
      | succ j => simpa using toAr_get q (j := j) (a := a) (by simpa using e)
  | .own d :: l, as, j, a, h, e => nomatch h
  | .ref i :: l, as, j, a, h, e => by
    unfold toAr at h
    split at h <;> try (cases h; done)
    all_goals
      rename_i d qi
      cases q : toAr ρ l with
      | none => rw [q] at h; cases h
      | some r =>
        rw [q] at h; cases h
        cases j with
        | zero =>
          simp at e
          first
            | exact .inr (.inl ⟨i, d, rfl, qi, e.symm⟩)
            | exact .inr (.inr ⟨i, d, rfl, .inl qi, e.symm⟩)
            | exact .inr (.inr ⟨i, d, rfl, .inr qi, e.symm⟩)
        | succ j => simpa using toAr_get q (j := j) (a := a) (by simpa using e)
section
variable {K : PySem.W.Frag} {mg : Str → Option Value} {P : Nat → Option V} {σ : St}
theorem AsR.len {H : Hp} : ∀ {vs : List Vl} {us : List V}, AsR K σ H vs us → us.length = vs.length
  | [], _, h => by cases h; rfl
  | .own _ :: _, _, h => h.elim
  | .imm d :: l, _, ⟨u, r, h1, h2, h3⟩ => by rw [h1]; simp [AsR.len h3]
  | .ref i :: l, _, ⟨u, r, h1, h2, h3⟩ => by rw [h1]; simp [AsR.len h3]
theorem AsR.get {H : Hp} : ∀ {vs : List Vl} {us : List V} {j : Nat} {v : Vl}, AsR K σ H vs us → vs[j]? = some v → ∃ u, us[j]? = some u ∧ VlR K σ H (fun _ => False) v u
  | [], _, _, _, _, e => by simp at e
  | .own _ :: _, _, _, _, h, _ => h.elim
  | .imm d :: l, _, 0, v, ⟨u, r, h1, h2, h3⟩, e => by simp at e; subst e; exact ⟨u, by rw [h1]; rfl, h2⟩
  | .ref i :: l, _, 0, v, ⟨u, r, h1, h2, h3⟩, e => by simp at e; subst e; exact ⟨u, by rw [h1]; rfl, h2⟩
  | .imm d :: l, _, j + 1, v, ⟨u, r, h1, h2, h3⟩, e => by
    obtain ⟨w, a, b⟩ := AsR.get h3 (j := j) (v := v) (by simpa using e)
    exact ⟨w, by rw [h1]; simpa using a, b⟩
  | .ref i :: l, _, j + 1, v, ⟨u, r, h1, h2, h3⟩, e => by
    obtain ⟨w, a, b⟩ := AsR.get h3 (j := j) (v := v) (by simpa using e)
    exact ⟨w, by rw [h1]; simpa using a, b⟩
def mutB (ρ : Env) (i : Nat) : Bool := match ρ[i]? with
  | some (.own _) => true
  | some (.par _) => true
  | _ => false
def pm (ρ : Env) (vs : List Vl) (i : Nat) : Option Nat := if mutB ρ i then posOf i vs 0 else none
theorem pm_get {ρ : Env} {vs : List Vl} {i j : Nat} (h : pm ρ vs i = some j) : vs[j]? = some (.ref i) ∧ mutB ρ i = true := by
  unfold pm at h
  split at h
  · rename_i hm
    exact ⟨by simpa using (posOf_get h).2, hm⟩
  · cases h
/-- what the callee may write -/
def Fc (ρ : Env) (vs : List Vl) (F : Nat → FS) : Nat → FS := fun j a => ∃ i, pm ρ vs i = some j ∧ F i a
def F2 (ρ : Env) (vs : List Vl) (F F' : Nat → FS) : Nat → FS := fun i a => match pm ρ vs i with
  | some j => F' j a
  | none => F i a
theorem call_args {H : Hp} {F : Nat → FS} {ρ : Env} {vs : List Vl} {us : List V} {as : List Ar} (E : EnvR K P H F ρ σ) (A : AsR K σ H vs us) (h : toAr ρ vs = some as) (nd : ndB (refsL vs) = true) : ArR K H (Fc ρ vs F) as us where
  len := by rw [toAr_len h]; exact A.len
  sl := fun j a e => by
    rcases toAr_get h e with ⟨d, h1, h2⟩ | ⟨i, d, h1, h0, h2⟩ | ⟨i, d, h1, h0, h2⟩
    · obtain ⟨u, h3, h4⟩ := A.get h1
      subst h2
      exact ⟨u, h3, h4⟩
    · obtain ⟨u, h3, h4⟩ := A.get h1
      subst h2
      have h4' : σ[i]? = some (some u) := h4
      have z := E.sl i _ h0
      rw [h4'] at z
      obtain ⟨v, e1, r⟩ := z
      cases e1
      exact ⟨u, h3, r⟩
    · obtain ⟨u, h3, h4⟩ := A.get h1
      subst h2
      have h4' : σ[i]? = some (some u) := h4
      have hp : pm ρ vs i = some j := by
        obtain ⟨m, hm⟩ := posOf_some 0 h1
        have := (posOf_get hm).2
        rw [Nat.sub_zero] at this
        have hj : m = j := nd_one nd this h1
        have hb : mutB ρ i = true := by rcases h0 with z | z <;> (unfold mutB; rw [z])
        unfold pm
        rw [if_pos hb, hm, hj]
      refine ⟨u, h3, ?_⟩
      rcases h0 with h0 | h0
      · have z := E.sl i _ h0
        rw [h4'] at z
        obtain ⟨v, e1, r⟩ := z
        cases e1
        exact OwnR.more r fun b z => ⟨i, hp, z⟩
      · have z := E.sl i _ h0
        rw [h4'] at z
        obtain ⟨v, e1, _, r⟩ := z
        cases e1
        exact OwnR.more r fun b z => ⟨i, hp, z⟩
  dj := fun j k a ⟨i, h1, f1⟩ ⟨i', h2, f2⟩ => by
    have e := E.dj i i' a f1 f2
    subst e
    rw [h1] at h2
    exact Option.some.inj h2
  dom := fun j a ⟨i, _, f⟩ => E.dom i a f
theorem fc_un {F : Nat → FS} {ρ : Env} {vs : List Vl} {a : Addr} (h : Un (Fc ρ vs F) a) : Un F a := let ⟨_, i, _, f⟩ := h; ⟨i, f⟩
theorem call_env {H H' : Hp} {F F' : Nat → FS} {ρ : Env} {vs : List Vl} {us : List V} {bs : List Ar} {S : FS} (E : EnvR K P H F ρ σ) (A : AsR K σ H vs us) (B : ArR K H' F' bs us) (f : Frm (Un (Fc ρ vs F)) (fun a => Un F' a ∨ S a) H H') :
    EnvR K P H' (F2 ρ vs F F') (wbs vs bs 0 ρ) σ := by
  have out : ∀ {i b}, pm ρ vs i = none → F i b → ¬ Un (Fc ρ vs F) b := fun {i b} hp hb ⟨j, i', h1, h2⟩ => by
    have e := E.dj i i' b hb h2
    subst e
    rw [hp] at h1; cases h1
  have keepF : ∀ {i b o}, pm ρ vs i = none → F i b → H b = some o → H' b = some o := fun {i b o} hp hb q => f.keep b o (out hp hb) q
  refine ⟨by rw [wbs_len]; exact E.len, fun i s h => ?_, fun i k a h1 h2 => ?_, fun i a h => ?_⟩
  · rw [wbs_get] at h
    cases q : ρ[i]? with
    | none => rw [q] at h; cases h
    | some s0 =>
      rw [q] at h
      simp only [Option.map_some, Option.some.injEq, Nat.zero_add] at h
      have z := E.sl i s0 q
      cases s0 with
      | non => cases hp : posOf i vs 0 <;> (rw [hp] at h; subst h; trivial)
      | imm d =>
        have e : s = .imm d := by cases hp : posOf i vs 0 <;> (rw [hp] at h; exact h.symm)
        subst e
        obtain ⟨v, h1, r⟩ := z
        exact ⟨v, h1, r.mono f.ext⟩
      | own d =>
        have hb : mutB ρ i = true := by unfold mutB; rw [q]
        have ep : pm ρ vs i = posOf i vs 0 := by unfold pm; rw [if_pos hb]
        obtain ⟨v, h1, r⟩ := z
        cases hp : posOf i vs 0 with
        | none =>
          rw [hp] at h ep
          subst h
          exact ⟨v, h1, (r.keep (fun b o s q => keepF ep s q) f.ext).more fun b z => by unfold F2; rw [ep]; exact z⟩
        | some j =>
          rw [hp] at h ep
          have hj := (pm_get ep).1
          obtain ⟨u, hu, hv⟩ := A.get hj
          have hv' : σ[i]? = some (some u) := hv
          unfold wb1 at h
          dsimp only at h
          split at h
          · rename_i d' hd
            subst h
            obtain ⟨v2, e2, r2⟩ := B.sl j _ hd
            rw [hu] at e2; cases e2
            exact ⟨u, by rw [hv']; rfl, OwnR.more r2 fun b z => by unfold F2; rw [ep]; exact z⟩
          · subst h; trivial
      | par d =>
        have hb : mutB ρ i = true := by unfold mutB; rw [q]
        have ep : pm ρ vs i = posOf i vs 0 := by unfold pm; rw [if_pos hb]
        obtain ⟨v, h1, h0, r⟩ := z
        cases hp : posOf i vs 0 with
        | none =>
          rw [hp] at h ep
          subst h
          exact ⟨v, h1, h0, (r.keep (fun b o s q => keepF ep s q) f.ext).more fun b z => by unfold F2; rw [ep]; exact z⟩
        | some j =>
          rw [hp] at h ep
          have hj := (pm_get ep).1
          obtain ⟨u, hu, hv⟩ := A.get hj
          have hv' : σ[i]? = some (some u) := hv
          unfold wb1 at h
          dsimp only at h
          split at h
          · rename_i d' hd
            subst h
            obtain ⟨v2, e2, r2⟩ := B.sl j _ hd
            rw [hu] at e2; cases e2
            rw [hv'] at h1
            have h1' : u = v := Option.some.inj h1
            rw [← h1'] at h0
            exact ⟨u, by rw [hv']; rfl, h0, OwnR.more r2 fun b z => by unfold F2; rw [ep]; exact z⟩
          · subst h; trivial
  · unfold F2 at h1 h2
    cases p1 : pm ρ vs i with
    | none =>
      rw [p1] at h1
      cases p2 : pm ρ vs k with
      | none => rw [p2] at h2; exact E.dj i k a h1 h2
      | some j2 =>
        rw [p2] at h2
        exact ((f.sub a (.inl ⟨j2, h2⟩)).elim (out p1 h1) (E.dom i a h1)).elim
    | some j1 =>
      rw [p1] at h1
      cases p2 : pm ρ vs k with
      | none =>
        rw [p2] at h2
        exact ((f.sub a (.inl ⟨j1, h1⟩)).elim (out p2 h2) (E.dom k a h2)).elim
      | some j2 =>
        rw [p2] at h2
        have e := B.dj j1 j2 a h1 h2
        subst e
        have a1 := (pm_get p1).1
        rw [(pm_get p2).1] at a1
        cases a1; rfl
  · unfold F2 at h
    cases p1 : pm ρ vs i with
    | none => rw [p1] at h; exact f.dom a (E.dom i a h)
    | some j1 => rw [p1] at h; exact B.dom j1 a h
theorem call_frm {H H' : Hp} {F F' : Nat → FS} {ρ : Env} {vs : List Vl} {S : FS} (E : EnvR K P H F ρ σ) (f : Frm (Un (Fc ρ vs F)) (fun a => Un F' a ∨ S a) H H') : Frm (Un F) (fun a => Un (F2 ρ vs F F') a ∨ S a) H H' where
  keep := fun b o n q => f.keep b o (fun z => n (fc_un z)) q
  ext := f.ext
  dom := f.dom
  sub := fun b h => by
    have fin : (Un F' b ∨ S b) → Un F b ∨ H b = none := fun z => (f.sub b z).imp fc_un id
    rcases h with ⟨i, h⟩ | h
    · unfold F2 at h
      cases p1 : pm ρ vs i with
      | none => rw [p1] at h; exact .inl ⟨i, h⟩
      | some j1 => rw [p1] at h; exact fin (.inl ⟨j1, h⟩)
    · exact fin (.inr h)
theorem call_dj {H H' : Hp} {F F' : Nat → FS} {ρ : Env} {vs : List Vl} {S : FS} (E : EnvR K P H F ρ σ) (dj : ∀ i a, F' i a → ¬ S a) (f : Frm (Un (Fc ρ vs F)) (fun a => Un F' a ∨ S a) H H') : ∀ i a, F2 ρ vs F F' i a → ¬ S a := fun i a h s => by
  unfold F2 at h
  cases p1 : pm ρ vs i with
  | none =>
    rw [p1] at h
    rcases f.sub a (.inr s) with ⟨j, i', h1, h2⟩ | z
    · have e := E.dj i i' a h h2
      subst e
      rw [p1] at h1; cases h1
    · exact E.dom i a h z
  | some j1 => rw [p1] at h; exact dj j1 a h s
theorem sd_call {W : WX} {g : List Ar → FOut} {n : Nat} {ta : TA} {a : SA} (hn : ∀ as, g as ≠ .fail → as.length = n) (ha : SdA K mg W ta a) : SdE K mg W (tCallS (fsp K mg n g) (WE W) ta) (eCall g a) := by
  intro P σ H F ρ Q E h
  refine ha P σ H F ρ _ E ?_
  unfold eCall at h
  cases ea : a ρ with
  | fail => rw [ea] at h; exact h
  | exc x ρ1 => rw [ea] at h; exact h
  | ok vs ρ1 =>
    rw [ea, Out.bind_ok] at h
    intro us H1 F1 S1 E1 R1 dj1 f1
    have f1' : Frm (Un F) (Un F1) H H1 := f1.less fun b z => .inl z
    cases e1 : toAr ρ1 vs with
    | none => rw [e1] at h; exact h.elim
    | some as =>
      rw [e1] at h
      dsimp only at h
      split at h
      · rename_i nd
        have B0 := call_args E1 R1 e1 nd
        have hg : g as ≠ .fail := fun z => by rw [z] at h; exact h
        refine ⟨as, _, hn as hg, B0, ?_⟩
        cases eg : g as with
        | fail => exact hg eg
        | ret r bs =>
          rw [eg] at h
          intro u H' F' S B V dj f
          exact h u H' _ S (call_env E1 R1 B f) V.vl (call_dj E1 dj f) (f1'.trans (call_frm E1 f))
        | exc x bs =>
          rw [eg] at h
          intro cls d H' F' B V f
          have f0 : Frm (Un (Fc ρ1 vs F1)) (fun a => Un F' a ∨ False) H1 H' := f.less fun b z => z.elim id False.elim
          exact h cls d H' _ (call_env (S := fun _ => False) E1 R1 B f0) V (f1'.trans ((call_frm (S := fun _ => False) E1 f0).less fun b z => .inl z))
      · exact h.elim
end
/-- f(..) -/
theorem pd_call {X : Cx} {W : WX} {k k' : Nat} {g : List Ar → FOut} {x : Str} {f : Addr} {fd : FuncData} {ps : List Str} {p pos : Pos} {e : Expr} {es : List Expr} {a : SA} (C : Ctx X W k') (G : FnOk X.prog X.w X.K X.mg X.base (L2.CX X.prog X.w) k f fd ps (fsp X.K X.mg ps.length g))
    (hm : X.mg x = some (.ref f)) (hkp : PySem.W.keepIn X.K (.ref f) = true) (hb : Binds X.K fd ps []) (hn : ∀ as, g as ≠ .fail → as.length = ps.length) (ha : PAd X W (e :: es) a) (hk : k ≤ k' := by decide) (hg : Gl X x := by rfl)
    (hdb : (x == ("__debug__" : Str)) = false := by decide) (he : starEach (e :: es) X.env = (false, eval e X.env) :: starEach es X.env := by rfl) (hpl : (backTo pos (starEach es X.env)).any (·.1) = false := by rfl) :
    PEd X W (.Call (.Name x p) (e :: es) [] pos) (eCall g a) := by
  obtain ⟨ta, a1, a2⟩ := ha
  exact ⟨_, pe_callS G (C.room.mono hk) hg hm hkp hb (fun σ => passAt C.tk σ) a1 hdb he hpl, sd_call hn a2⟩
theorem runF_len {n m : Nat} {body : SS} : ∀ as, (fun as : List Ar => if as.length = m then runF n body as else .fail) as ≠ .fail → as.length = m := fun as h => by
  dsimp only at h
  split at h
  · assumption
  · exact absurd rfl h
end PF

namespace PF
open PySem PySem.Spec PyProof.Rows
open L2

/-! ### tests -/
def tV (a : SE) : ST := fun ρ => (a ρ).bind fun v ρ1 => match v with
  | .imm (.bl b) => .ok b ρ1
  | _ => .fail
def stNot (a : ST) : ST := fun ρ => (a ρ).bind fun b ρ1 => .ok (!b) ρ1
def stAnd (a b : ST) : ST := fun ρ => (a ρ).bind fun c ρ1 => if c then b ρ1 else .ok false ρ1
def stOr (a b : ST) : ST := fun ρ => (a ρ).bind fun c ρ1 => if c then .ok true ρ1 else b ρ1
/-- truth of other values -/
def truD : D → Option Bool
  | .bl b => some b
  | .non => some false
  | .int i => some (i != 0)
  | .str s => if s.length ≤ big then some (!s.isEmpty) else none
  | .tup l => some (!l.isEmpty)
  | .lst l => some (!l.isEmpty)
  | _ => none
def tTr (a : SE) : ST := fun ρ => (a ρ).bind fun v ρ1 => match rd ρ1 v with
  | some d => match truD d with
    | some b => .ok b ρ1
    | none => .fail
  | none => .fail
section
variable {X : Cx} {W : WX} {K : PySem.W.Frag} {mg : Str → Option Value}
theorem PostO.doneB {P : Nat → Option V} {σ : L2.St} {Q : Bool → Hp → Prop} {F : Nat → FS} {H : Hp} {ρ : Env} {b : Bool} (E : EnvR K P H F ρ σ) (h : PostO K mg P W σ (fun _ _ a b => a = b) Q F H (.ok b ρ)) : Q b H :=
  h b H F (fun _ => False) E rfl (fun _ _ _ z => z) (Frm.refl _ _ |>.less fun b z => z.elim id False.elim)
theorem PostO.doneV {P : Nat → Option V} {σ : L2.St} {Q : VK} {F : Nat → FS} {H : Hp} {ρ : Env} {d : D} {u : V} (E : EnvR K P H F ρ σ) (h : PostO K mg P W σ (VlR K σ) Q F H (.ok (.imm d) ρ)) (r : RI K H d u) : Q u H :=
  h u H F (fun _ => False) E r (fun _ _ _ z => z) (Frm.refl _ _ |>.less fun b z => z.elim id False.elim)
theorem sd_tV {te : TE} {a : SE} (ha : SdE K mg W te a) : SdT K mg W (fun σ H Q => te σ H fun x H1 => ∃ c, x = .bl c ∧ Q c H1) (tV a) := by
  intro P σ H F ρ Q E h
  refine ha P σ H F ρ _ E ?_
  unfold tV at h
  cases ea : a ρ with
  | fail => rw [ea] at h; exact h
  | exc x ρ1 => rw [ea] at h; exact h
  | ok v ρ1 =>
    rw [ea, Out.bind_ok] at h
    intro u H1 F1 S1 E1 R1 dj1 f1
    split at h
    · rename_i b
      cases R1
      exact ⟨b, rfl, PostO.doneB E1 (h.from f1)⟩
    · exact h.elim
theorem sd_tTr {te : TE} {a : SE} (ha : SdE K mg W te a) : SdT K mg W (fun σ H Q => te σ H fun x H1 => ∃ k, TruV K x H1 k ∧ Q k H1) (tTr a) := by
  intro P σ H F ρ Q E h
  refine ha P σ H F ρ _ E ?_
  unfold tTr at h
  cases ea : a ρ with
  | fail => rw [ea] at h; exact h
  | exc x ρ1 => rw [ea] at h; exact h
  | ok v ρ1 =>
    rw [ea, Out.bind_ok] at h
    intro u H1 F1 S1 E1 R1 dj1 f1
    cases e1 : rd ρ1 v with
    | none => rw [e1] at h; exact h.elim
    | some d =>
      rw [e1] at h
      cases e2 : truD d with
      | none => simp only [e2] at h; exact h.elim
      | some b =>
        simp only [e2] at h
        have r := rd_ok E1 R1 e1
        refine ⟨b, ?_, PostO.doneB E1 (h.from f1)⟩
        cases d with
        | non => cases r; cases e2; rfl
        | bl c => cases r; cases e2; rfl
        | int i => cases r; cases e2; rfl
        | str s =>
          cases r
          unfold truD at e2
          dsimp only at e2
          split at e2
          · rename_i hl
            cases e2
            refine ⟨by rw [mkS_length]; exact big_line hl, ?_⟩
            rw [mkS_length]
            cases s with
            | nil => rfl
            | cons c s =>
              have h0 : (((c :: s).length : Nat) : Int) ≠ 0 := by rw [List.length_cons]; omega
              exact (bne_iff_ne.mpr h0).symm
          · cases e2
        | tup l =>
          obtain ⟨p, vs, e, q, rs⟩ := r
          subst e; cases e2
          refine .inr (.inl ⟨vs, SqT.of q, ?_⟩)
          have := rs.length
          cases vs <;> cases l <;> simp_all
        | lst l =>
          obtain ⟨p, vs, e, q, rs⟩ := r
          subst e; cases e2
          refine .inl ⟨vs, q, ?_⟩
          have := rs.length
          cases vs <;> cases l <;> simp_all
        | dct l => cases e2
        | dcT l => cases e2
        | deal _ _ _ => cases e2
theorem sd_not {te : TT} {a : ST} (ha : SdT K mg W te a) : SdT K mg W (tNot te) (stNot a) := by
  intro P σ H F ρ Q E h
  refine ha P σ H F ρ _ E ?_
  unfold stNot at h
  cases ea : a ρ with
  | fail => rw [ea] at h; exact h
  | exc x ρ1 => rw [ea] at h; exact h
  | ok v ρ1 =>
    rw [ea, Out.bind_ok] at h
    intro u H1 F1 S1 E1 R1 dj1 f1
    cases R1
    exact h _ H1 F1 S1 E1 rfl dj1 f1
theorem sd_and {ta tb : TT} {a b : ST} (ha : SdT K mg W ta a) (hb : SdT K mg W tb b) : SdT K mg W (tAnd ta tb) (stAnd a b) := by
  intro P σ H F ρ Q E h
  refine ha P σ H F ρ _ E ?_
  unfold stAnd at h
  cases ea : a ρ with
  | fail => rw [ea] at h; exact h
  | exc x ρ1 => rw [ea] at h; exact h
  | ok v ρ1 =>
    rw [ea, Out.bind_ok] at h
    intro u H1 F1 S1 E1 R1 dj1 f1
    cases R1
    cases v with
    | true => exact iteT (hb P σ H1 F1 ρ1 _ E1 (h.from f1))
    | false => exact iteF (h _ H1 F1 S1 E1 rfl dj1 f1)
theorem sd_or {ta tb : TT} {a b : ST} (ha : SdT K mg W ta a) (hb : SdT K mg W tb b) : SdT K mg W (tOr ta tb) (stOr a b) := by
  intro P σ H F ρ Q E h
  refine ha P σ H F ρ _ E ?_
  unfold stOr at h
  cases ea : a ρ with
  | fail => rw [ea] at h; exact h
  | exc x ρ1 => rw [ea] at h; exact h
  | ok v ρ1 =>
    rw [ea, Out.bind_ok] at h
    intro u H1 F1 S1 E1 R1 dj1 f1
    cases R1
    cases v with
    | true => exact iteT (h _ H1 F1 S1 E1 rfl dj1 f1)
    | false => exact iteF (hb P σ H1 F1 ρ1 _ E1 (h.from f1))
theorem ptd_val {e : Expr} {a : SE} (h : PEd X W e a) (he : ∀ whole, isTrue e X.env whole = (do let v ← whole; standAt e.pos; holding [v] (truthy v)) := by intro _; rfl) : PTd X W e (tV a) := by
  obtain ⟨te, h1, h2⟩ := h
  exact ⟨_, pt_val h1 he, sd_tV h2⟩
theorem ptd_tru {e : Expr} {a : SE} (h : PEd X W e a) (he : ∀ whole, isTrue e X.env whole = (do let v ← whole; standAt e.pos; holding [v] (truthy v)) := by intro _; rfl) : PTd X W e (tTr a) := by
  obtain ⟨te, h1, h2⟩ := h
  exact ⟨_, pt_truth h1 he, sd_tTr h2⟩
theorem ptd_cmp {op : CmpOp} {f : D → D → Option Vl} {a b : Expr} {sa sb : SE} {pos : Pos} (h : ∃ r, OpR X (compareOp op) r ∧ OpD X.K r f) (ha : PEd X W a sa) (hb : PEd X W b sb) (hm : behindInMarks op b = false := by first | rfl | exact nomark _) :
    PTd X W (.Compare a [op] [b] pos) (tV (eBin f sa sb)) := by
  obtain ⟨r, h1, h2⟩ := h
  obtain ⟨ta, a1, a2⟩ := ha
  obtain ⟨tb, b1, b2⟩ := hb
  exact ⟨_, pt_cmpR h1 a1 b1 hm, sd_tV (sd_bin h2 a2 b2)⟩
theorem ptd_not {e : Expr} {a : ST} {pos : Pos} (h : PTd X W e a) : PTd X W (.UnaryOp .Not e pos) (stNot a) := by
  obtain ⟨te, h1, h2⟩ := h
  exact ⟨_, pt_not h1, sd_not h2⟩
/-- chains of and, or -/
def PWd (X : Cx) (W : WX) (e : Expr) (se : ST) : Prop := ∃ te, PW X e te ∧ SdT X.K X.mg W te se
theorem pwd_and1 {a : Expr} {s : ST} {pos : Pos} (h : PTd X W a s) : PWd X W (.BoolOp .And [a] pos) s := by
  obtain ⟨te, h1, h2⟩ := h
  exact ⟨_, pw_and1 h1, h2⟩
theorem pwd_or1 {a : Expr} {s : ST} {pos : Pos} (h : PTd X W a s) : PWd X W (.BoolOp .Or [a] pos) s := by
  obtain ⟨te, h1, h2⟩ := h
  exact ⟨_, pw_or1 h1, h2⟩
theorem pwd_and {a b : Expr} {rest : List Expr} {s t : ST} {pos : Pos} (h : PTd X W a s) (k : PWd X W (.BoolOp .And (b :: rest) pos) t) : PWd X W (.BoolOp .And (a :: b :: rest) pos) (stAnd s t) := by
  obtain ⟨te, h1, h2⟩ := h
  obtain ⟨tf, k1, k2⟩ := k
  exact ⟨_, pw_and h1 k1, sd_and h2 k2⟩
theorem pwd_or {a b : Expr} {rest : List Expr} {s t : ST} {pos : Pos} (h : PTd X W a s) (k : PWd X W (.BoolOp .Or (b :: rest) pos) t) : PWd X W (.BoolOp .Or (a :: b :: rest) pos) (stOr s t) := by
  obtain ⟨te, h1, h2⟩ := h
  obtain ⟨tf, k1, k2⟩ := k
  exact ⟨_, pw_or h1 k1, sd_or h2 k2⟩
theorem PWd.pt {e : Expr} {s : ST} (h : PWd X W e s) : PTd X W e s := by
  obtain ⟨te, h1, h2⟩ := h
  exact ⟨_, h1.pt, h2⟩
/-- a and b, a or b, not a, as values -/
def eB (a : ST) : SE := fun ρ => (a ρ).bind fun b ρ1 => .ok (.imm (.bl b)) ρ1
def eAndV (a b : SE) : SE := fun ρ => (a ρ).bind fun v ρ1 => match v with
  | .imm (.bl c) => if c then b ρ1 else .ok (.imm (.bl false)) ρ1
  | _ => .fail
def eOrV (a b : SE) : SE := fun ρ => (a ρ).bind fun v ρ1 => match v with
  | .imm (.bl c) => if c then .ok (.imm (.bl true)) ρ1 else b ρ1
  | _ => .fail
def eNotV (a : SE) : SE := fun ρ => (a ρ).bind fun v ρ1 => match v with
  | .imm (.bl c) => .ok (.imm (.bl (!c))) ρ1
  | _ => .fail
theorem sd_andV {ta tb : TE} {a b : SE} (ha : SdE K mg W ta a) (hb : SdE K mg W tb b) : SdE K mg W (tAndV ta tb) (eAndV a b) := by
  intro P σ H F ρ Q E h
  refine ha P σ H F ρ _ E ?_
  unfold eAndV at h
  cases ea : a ρ with
  | fail => rw [ea] at h; exact h
  | exc x ρ1 => rw [ea] at h; exact h
  | ok v ρ1 =>
    rw [ea, Out.bind_ok] at h
    intro u H1 F1 S1 E1 R1 dj1 f1
    split at h
    · rename_i c
      cases R1
      refine ⟨c, rfl, ?_⟩
      cases c with
      | true => exact iteT (hb P σ H1 F1 ρ1 _ E1 (h.from f1))
      | false => exact iteF (PostO.doneV E1 (h.from f1) rfl)
    · exact h.elim
theorem sd_orV {ta tb : TE} {a b : SE} (ha : SdE K mg W ta a) (hb : SdE K mg W tb b) : SdE K mg W (tOrV ta tb) (eOrV a b) := by
  intro P σ H F ρ Q E h
  refine ha P σ H F ρ _ E ?_
  unfold eOrV at h
  cases ea : a ρ with
  | fail => rw [ea] at h; exact h
  | exc x ρ1 => rw [ea] at h; exact h
  | ok v ρ1 =>
    rw [ea, Out.bind_ok] at h
    intro u H1 F1 S1 E1 R1 dj1 f1
    split at h
    · rename_i c
      cases R1
      refine ⟨c, rfl, ?_⟩
      cases c with
      | true => exact iteT (PostO.doneV E1 (h.from f1) rfl)
      | false => exact iteF (hb P σ H1 F1 ρ1 _ E1 (h.from f1))
    · exact h.elim
theorem sd_notV {ta : TE} {a : SE} (ha : SdE K mg W ta a) : SdE K mg W (tNotV ta) (eNotV a) := by
  intro P σ H F ρ Q E h
  refine ha P σ H F ρ _ E ?_
  unfold eNotV at h
  cases ea : a ρ with
  | fail => rw [ea] at h; exact h
  | exc x ρ1 => rw [ea] at h; exact h
  | ok v ρ1 =>
    rw [ea, Out.bind_ok] at h
    intro u H1 F1 S1 E1 R1 dj1 f1
    split at h
    · rename_i c
      cases R1
      exact ⟨c, rfl, PostO.doneV E1 (h.from f1) rfl⟩
    · exact h.elim
theorem pd_one {a : Expr} {op : BoolOp} {s : SE} {pos : Pos} (h : PEd X W a s) : PEd X W (.BoolOp op [a] pos) s := by
  obtain ⟨te, h1, h2⟩ := h
  exact ⟨_, pe_one h1, h2⟩
theorem pd_and {a b : Expr} {rest : List Expr} {s t : SE} {pos : Pos} (h : PEd X W a s) (k : PEd X W (.BoolOp .And (b :: rest) pos) t) : PEd X W (.BoolOp .And (a :: b :: rest) pos) (eAndV s t) := by
  obtain ⟨te, h1, h2⟩ := h
  obtain ⟨tf, k1, k2⟩ := k
  exact ⟨_, pe_and h1 k1, sd_andV h2 k2⟩
theorem pd_or {a b : Expr} {rest : List Expr} {s t : SE} {pos : Pos} (h : PEd X W a s) (k : PEd X W (.BoolOp .Or (b :: rest) pos) t) : PEd X W (.BoolOp .Or (a :: b :: rest) pos) (eOrV s t) := by
  obtain ⟨te, h1, h2⟩ := h
  obtain ⟨tf, k1, k2⟩ := k
  exact ⟨_, pe_or h1 k1, sd_orV h2 k2⟩
theorem pd_not {e : Expr} {a : SE} {pos : Pos} (h : PEd X W e a) : PEd X W (.UnaryOp .Not e pos) (eNotV a) := by
  obtain ⟨te, h1, h2⟩ := h
  exact ⟨_, pe_not h1, sd_notV h2⟩
/-- a if c else b -/
def eIf (c : ST) (a b : SE) : SE := fun ρ => (c ρ).bind fun k ρ1 => if k then a ρ1 else b ρ1
theorem sd_if {tc : TT} {ta tb : TE} {c : ST} {a b : SE} (hc : SdT K mg W tc c) (ha : SdE K mg W ta a) (hb : SdE K mg W tb b) : SdE K mg W (tIf tc ta tb) (eIf c a b) := by
  intro P σ H F ρ Q E h
  refine hc P σ H F ρ _ E ?_
  unfold eIf at h
  cases ea : c ρ with
  | fail => rw [ea] at h; exact h
  | exc x ρ1 => rw [ea] at h; exact h
  | ok v ρ1 =>
    rw [ea, Out.bind_ok] at h
    intro u H1 F1 S1 E1 R1 dj1 f1
    cases R1
    cases v with
    | true => exact iteT (ha P σ H1 F1 ρ1 _ E1 (h.from f1))
    | false => exact iteF (hb P σ H1 F1 ρ1 _ E1 (h.from f1))
theorem pd_if {c a b : Expr} {sc : ST} {sa sb : SE} {pos : Pos} (hc : PTd X W c sc) (ha : PEd X W a sa) (hb : PEd X W b sb) : PEd X W (.IfExp c a b pos) (eIf sc sa sb) := by
  obtain ⟨tc, c1, c2⟩ := hc
  obtain ⟨ta, a1, a2⟩ := ha
  obtain ⟨tb, b1, b2⟩ := hb
  exact ⟨_, pe_ifExp c1 a1 b1, sd_if c2 a2 b2⟩

/-! ### targets -/
inductive Tg where
  | nm (i : Nat) | tup (l : List Tg)
mutual
def setT : Tg → D → Env → Option Env
  | .nm i, d, ρ => match ρ[i]? with
    | some (.par _) => none
    | none => none
    | _ => some (ρ.set i (.imm d))
  | .tup ts, d, ρ => match d with
    | .tup l => setTs ts l ρ
    | _ => none
def setTs : List Tg → List D → Env → Option Env
  | [], [], ρ => some ρ
  | t :: ts, d :: l, ρ => match setT t d ρ with
    | some ρ1 => setTs ts l ρ1
    | none => none
  | _, _, _ => none
end
mutual
def tgS : Tg → List Nat
  | .nm i => [i]
  | .tup ts => tgSs ts
def tgSs : List Tg → List Nat
  | [] => []
  | t :: ts => tgS t ++ tgSs ts
end
/-- nothing but these slots -/
def Only (l : List Nat) (σ σ' : L2.St) : Prop := σ'.length = σ.length ∧ ∀ j, j ∉ l → σ'[j]? = σ[j]?
def SdG (K : PySem.W.Frag) (g : TG) (t : Tg) : Prop := ∀ P σ H F ρ d v ρ' Q, EnvR K P H F ρ σ → RI K H d v → setT t d ρ = some ρ' → (∀ σ' F', EnvR K P H F' ρ' σ' → (∀ a, Un F' a → Un F a) → Only (tgS t) σ σ' → Q σ' H) → g v σ H Q
def SdGs (K : PySem.W.Frag) (g : TGs) (t : List Tg) : Prop := ∀ P σ H F ρ l vs ρ' Q, EnvR K P H F ρ σ → RIs K H l vs → setTs t l ρ = some ρ' → (∀ σ' F', EnvR K P H F' ρ' σ' → (∀ a, Un F' a → Un F a) → Only (tgSs t) σ σ' → Q σ' H) → g vs σ H Q
def PGd (X : Cx) (e : Expr) (t : Tg) : Prop := ∃ g, PG X e g ∧ SdG X.K g t
def PGsd (X : Cx) (e : List Expr) (t : List Tg) : Prop := ∃ g, PGs X e g ∧ SdGs X.K g t ∧ e.length = t.length
theorem EnvR.setI {P : Nat → Option V} {H : Hp} {F : Nat → FS} {ρ : Env} {σ : L2.St} (E : EnvR K P H F ρ σ) {i : Nat} {d : D} {v : V} (hi : i < ρ.length) (r : RI K H d v) : ∃ F', EnvR K P H F' (ρ.set i (.imm d)) (σ.set i (some v)) ∧ ∀ a, Un F' a → Un F a :=
  ⟨_, E.put (S := fun _ => False) (s := .imm d) (o := some v) hi (show SlR K H _ _ (.imm d) (some v) from ⟨v, rfl, r⟩) (fun _ _ _ z => z) (fun _ z => z.elim), fun a z => (PF.Un.put z).elim id False.elim⟩
theorem sdg_nm (i : Nat) : SdG K (gName i) (.nm i) := by
  intro P σ H F ρ d v ρ' Q E r h q
  have hi : i < ρ.length ∧ ρ' = ρ.set i (.imm d) := by
    unfold setT at h
    cases e : ρ[i]? with
    | none => rw [e] at h; cases h
    | some s =>
      rw [e] at h
      cases s with
      | par d => cases h
      | non => cases h; exact ⟨lt_of_get e, rfl⟩
      | imm _ => cases h; exact ⟨lt_of_get e, rfl⟩
      | own _ => cases h; exact ⟨lt_of_get e, rfl⟩
  obtain ⟨hi, rfl⟩ := hi
  obtain ⟨F', E', sub⟩ := E.setI hi r
  exact q _ F' E' sub ⟨List.length_set .., fun j hj => List.set_get_ne fun e => hj (by rw [e]; exact List.mem_singleton.mpr rfl)⟩
theorem sdg_nil : SdGs K gNil [] := by
  intro P σ H F ρ l vs ρ' Q E r h q
  cases l with
  | nil => cases h; cases r; exact ⟨rfl, q σ F E (fun _ z => z) ⟨rfl, fun _ _ => rfl⟩⟩
  | cons d l => cases h
theorem sdg_cons {g : TG} {gs : TGs} {t : Tg} {ts : List Tg} (h1 : SdG K g t) (h2 : SdGs K gs ts) : SdGs K (gCons g gs) (t :: ts) := by
  intro P σ H F ρ l vs ρ' Q E r h q
  cases l with
  | nil => cases h
  | cons d l =>
    obtain ⟨v, r', e, rv, rs⟩ := r
    unfold setTs at h
    cases e1 : setT t d ρ with
    | none => rw [e1] at h; cases h
    | some ρ1 =>
      rw [e1] at h
      refine ⟨v, r', e, h1 P σ H F ρ d v ρ1 _ E rv e1 fun σ1 F1 E1 s1 o1 => ?_⟩
      refine h2 P σ1 H F1 ρ1 l r' ρ' Q E1 rs h fun σ' F' E' s' o' => q σ' F' E' (fun a z => s1 a (s' a z)) ⟨o'.1.trans o1.1, fun j hj => ?_⟩
      have hj' : j ∉ tgS t ++ tgSs ts := hj
      rw [List.mem_append, not_or] at hj'
      exact (o'.2 j hj'.2).trans (o1.2 j hj'.1)
theorem sdg_tup {gs : TGs} {ts : List Tg} (n : Nat) (h : SdGs K gs ts) (hn : ts.length = n) : SdG K (gTup K n gs) (.tup ts) := by
  intro P σ H F ρ d v ρ' Q E r hs q
  cases d with
  | tup l =>
    obtain ⟨a, vs, e, ha, rs⟩ := r
    have hs' : setTs ts l ρ = some ρ' := hs
    have hl : ∀ {ts : List Tg} {l : List D} {ρ ρ' : Env}, setTs ts l ρ = some ρ' → l.length = ts.length := by
      intro ts
      induction ts with
      | nil => intro l ρ ρ' h; cases l with
        | nil => rfl
        | cons => cases h
      | cons t ts ih =>
        intro l ρ ρ' h
        cases l with
        | nil => cases h
        | cons d l =>
          unfold setTs at h
          cases e1 : setT t d ρ with
          | none => rw [e1] at h; cases h
          | some ρ1 => rw [e1] at h; rw [List.length_cons, List.length_cons, ih h]
    refine ⟨a, vs, e, SqT.of ha, by rw [rs.length, hl hs', hn], ?_⟩
    exact h P σ H F ρ l vs ρ' Q E rs hs' q
  | _ => cases hs
theorem pgd_nm (i : Nat) {x : Str} {pos : Pos} (hN : X.N.Nodup) (hi : X.N[i]? = some x := by rfl) (hx : Loc X.env.scope x := by first | exact .inl rfl | exact .inr rfl) (hf : X.fn x = true ∨ X.env.scope.names.lookup x = some .local := by first | exact .inl rfl | exact .inr rfl) : PGd X (.Name x pos) (.nm i) :=
  ⟨_, pg_name hN hi hx hf, sdg_nm i⟩
theorem pgd_cons {e : Expr} {es : List Expr} {t : Tg} {ts : List Tg} (h : PGd X e t) (k : PGsd X es ts) (hs : (assignEach (e :: es) X.env).map (·.2) = assign e X.env :: (assignEach es X.env).map (·.2) := by rfl) : PGsd X (e :: es) (t :: ts) := by
  obtain ⟨g, h1, h2⟩ := h
  obtain ⟨gs, k1, k2, k3⟩ := k
  exact ⟨_, pgs_cons h1 k1 hs, sdg_cons h2 k2, by rw [List.length_cons, List.length_cons, k3]⟩
theorem pgd_tup {es : List Expr} {j : Nat} {ts : List Tg} {pos : Pos} (hc : X.calm = true) (k : PGsd X es ts) (hn : (assignEach es X.env).length = ts.length := by rfl) (hst : (assignEach es X.env).findIdx? (·.1) = none := by rfl) : PGd X (.Tuple es j pos) (.tup ts) := by
  obtain ⟨gs, k1, k2, k3⟩ := k
  exact ⟨_, pg_tup hc k1 hn hst, sdg_tup _ k2 rfl⟩
theorem pgd_nil : PGsd X [] [] := ⟨_, pgs_nil, sdg_nil, rfl⟩
end
end PF

namespace PF
open PySem PySem.Spec PyProof.Rows
open L2
section
variable {X : Cx} {W : WX} {K : PySem.W.Frag} {mg : Str → Option Value}
theorem noS {U : FS} {H H' : Hp} {F F' : Nat → FS} {S : FS} (f : Frm (PF.Un F) (fun a => PF.Un F' a ∨ S a) H H') : Frm (PF.Un F) (PF.Un F') H H' := f.less fun _ z => .inl z
theorem addS {H H' : Hp} {F F' : Nat → FS} (f : Frm (PF.Un F) (PF.Un F') H H') : Frm (PF.Un F) (fun a => PF.Un F' a ∨ (fun _ => False) a) H H' := f.less fun _ z => z.elim id False.elim

/-! ### statements -/
def sPass : SS := fun ρ => .nx ρ
def sSeq (a b : SS) : SS := fun ρ => match a ρ with
  | .nx ρ1 => b ρ1
  | o => o
def sBrk : SS := fun ρ => .bk ρ
def sCont : SS := fun ρ => .ct ρ
def sExpr (a : SE) : SS := fun ρ => match a ρ with
  | .ok _ ρ1 => .nx ρ1
  | .exc x ρ1 => .exc x ρ1
  | .fail => .fail
def sRet (a : SE) : SS := fun ρ => match a ρ with
  | .ok v ρ1 => .rt v ρ1
  | .exc x ρ1 => .exc x ρ1
  | .fail => .fail
def sRetN : SS := fun ρ => .rt (.imm .non) ρ
def sIf (c : ST) (a b : SS) : SS := fun ρ => match c ρ with
  | .ok true ρ1 => a ρ1
  | .ok false ρ1 => b ρ1
  | .exc x ρ1 => .exc x ρ1
  | .fail => .fail
def putS (i : Nat) (s : Sl) (ρ : Env) : Option Env := match ρ[i]? with
  | some (.par _) => none
  | none => none
  | _ => some (ρ.set i s)
def sSet (i : Nat) (a : SE) : SS := fun ρ => match a ρ with
  | .ok (.imm d) ρ1 => match putS i (.imm d) ρ1 with
    | some ρ2 => .nx ρ2
    | none => .fail
  | .ok (.own d) ρ1 => match putS i (.own d) ρ1 with
    | some ρ2 => .nx ρ2
    | none => .fail
  | .ok (.ref _) _ => .fail
  | .exc x ρ1 => .exc x ρ1
  | .fail => .fail
def sAsg (t : Tg) (a : SE) : SS := fun ρ => match a ρ with
  | .ok (.imm d) ρ1 => match setT t d ρ1 with
    | some ρ2 => .nx ρ2
    | none => .fail
  | .ok _ _ => .fail
  | .exc x ρ1 => .exc x ρ1
  | .fail => .fail
theorem sd_pass : SdS K mg W tNext sPass := fun P σ H F ρ D E h => h σ H F E (Frm.refl _ _)
theorem sd_brk : SdS K mg W tBreak sBrk := fun P σ H F ρ D E h => h σ H F E (Frm.refl _ _)
theorem sd_cont : SdS K mg W tCont sCont := fun P σ H F ρ D E h => h σ H F E (Frm.refl _ _)
theorem sd_retN : SdS K mg W tRetN sRetN := fun P σ H F ρ D E h => h .non σ H F (fun _ => False) E rfl (fun _ _ _ z => z) (addS (Frm.refl _ _))
theorem sd_seq {t u : TS} {a b : SS} (ha : SdS K mg W t a) (hb : SdS K mg W u b) : SdS K mg W (tSeq t u) (sSeq a b) := by
  intro P σ H F ρ D E h
  refine ha P σ H F ρ _ E ?_
  unfold sSeq at h
  cases ea : a ρ with
  | nx ρ1 => rw [ea] at h; exact fun σ1 H1 F1 E1 f1 => hb P σ1 H1 F1 ρ1 D E1 (h.from (addS f1))
  | rt v ρ1 => rw [ea] at h; exact h
  | bk ρ1 => rw [ea] at h; exact h
  | ct ρ1 => rw [ea] at h; exact h
  | exc x ρ1 => rw [ea] at h; exact h
  | fail => rw [ea] at h; exact h
theorem sd_expr {te : TE} {a : SE} (ha : SdE K mg W te a) : SdS K mg W (tDrop te) (sExpr a) := by
  intro P σ H F ρ D E h
  refine ha P σ H F ρ _ E ?_
  unfold sExpr at h
  cases ea : a ρ with
  | fail => rw [ea] at h; exact h
  | exc x ρ1 => rw [ea] at h; exact fun cls d H1 F1 E1 r f => h cls d σ H1 F1 E1 r f
  | ok v ρ1 => rw [ea] at h; exact fun u H1 F1 S1 E1 R1 dj1 f1 => h σ H1 F1 E1 (f1.less fun _ z => .inl z)
theorem sd_ret {te : TE} {a : SE} (ha : SdE K mg W te a) : SdS K mg W (tRet te) (sRet a) := by
  intro P σ H F ρ D E h
  refine ha P σ H F ρ _ E ?_
  unfold sRet at h
  cases ea : a ρ with
  | fail => rw [ea] at h; exact h
  | exc x ρ1 => rw [ea] at h; exact fun cls d H1 F1 E1 r f => h cls d σ H1 F1 E1 r f
  | ok v ρ1 => rw [ea] at h; exact fun u H1 F1 S1 E1 R1 dj1 f1 => h u σ H1 F1 S1 E1 R1 dj1 f1
theorem sd_ifS {tc : TT} {t u : TS} {c : ST} {a b : SS} (hc : SdT K mg W tc c) (ha : SdS K mg W t a) (hb : SdS K mg W u b) : SdS K mg W (tIfS tc t u) (sIf c a b) := by
  intro P σ H F ρ D E h
  refine hc P σ H F ρ _ E ?_
  unfold sIf at h
  cases ea : c ρ with
  | fail => rw [ea] at h; exact h
  | exc x ρ1 => rw [ea] at h; exact fun cls d H1 F1 E1 r f => h cls d σ H1 F1 E1 r f
  | ok v ρ1 =>
    rw [ea] at h
    intro k H1 F1 S1 E1 R1 dj1 f1
    cases R1
    cases v with
    | true => exact iteT (ha P σ H1 F1 ρ1 D E1 (h.from f1))
    | false => exact iteF (hb P σ H1 F1 ρ1 D E1 (h.from f1))
theorem putS_ok {i : Nat} {s : Sl} {ρ ρ' : Env} (h : putS i s ρ = some ρ') : i < ρ.length ∧ ρ' = ρ.set i s := by
  unfold putS at h
  cases e : ρ[i]? with
  | none => rw [e] at h; cases h
  | some s =>
    rw [e] at h
    cases s with
    | par d => cases h
    | non => cases h; exact ⟨lt_of_get e, rfl⟩
    | imm _ => cases h; exact ⟨lt_of_get e, rfl⟩
    | own _ => cases h; exact ⟨lt_of_get e, rfl⟩
theorem sd_set {te : TE} {a : SE} (i : Nat) (ha : SdE K mg W te a) : SdS K mg W (tAsg te (gName i)) (sSet i a) := by
  intro P σ H F ρ D E h
  refine ha P σ H F ρ _ E ?_
  unfold sSet at h
  cases ea : a ρ with
  | fail => rw [ea] at h; exact h
  | exc x ρ1 => rw [ea] at h; exact fun cls d H1 F1 E1 r f => h cls d σ H1 F1 E1 r f
  | ok v ρ1 =>
    rw [ea] at h
    intro u H1 F1 S1 E1 R1 dj1 f1
    cases v with
    | ref j => exact h.elim
    | imm d =>
      dsimp only at h
      cases q : putS i (.imm d) ρ1 with
      | none => rw [q] at h; exact h.elim
      | some ρ2 =>
        rw [q] at h
        obtain ⟨hi, rfl⟩ := putS_ok q
        obtain ⟨F2, E2, sub⟩ := E1.setI hi R1
        exact h _ H1 F2 E2 (f1.less fun a z => .inl (sub a z))
    | own d =>
      dsimp only at h
      cases q : putS i (.own d) ρ1 with
      | none => rw [q] at h; exact h.elim
      | some ρ2 =>
        rw [q] at h
        obtain ⟨hi, rfl⟩ := putS_ok q
        exact h _ H1 _ (E1.put (S := S1) (s := .own d) (o := some u) hi (show SlR K H1 S1 _ (.own d) (some u) from ⟨u, rfl, R1.1⟩) dj1 R1.2) (f1.less fun a z => PF.Un.put z)
theorem sd_asg {te : TE} {a : SE} {g : TG} {t : Tg} (hg : SdG K g t) (ha : SdE K mg W te a) : SdS K mg W (tAsg te g) (sAsg t a) := by
  intro P σ H F ρ D E h
  refine ha P σ H F ρ _ E ?_
  unfold sAsg at h
  cases ea : a ρ with
  | fail => rw [ea] at h; exact h
  | exc x ρ1 => rw [ea] at h; exact fun cls d H1 F1 E1 r f => h cls d σ H1 F1 E1 r f
  | ok v ρ1 =>
    rw [ea] at h
    intro u H1 F1 S1 E1 R1 dj1 f1
    cases v with
    | ref j => exact h.elim
    | own d => exact h.elim
    | imm d =>
      dsimp only at h
      cases q : setT t d ρ1 with
      | none => rw [q] at h; exact h.elim
      | some ρ2 =>
        rw [q] at h
        exact hg P σ H1 F1 ρ1 d u ρ2 _ E1 R1 q fun σ2 F2 E2 sub _ => h σ2 H1 F2 E2 (f1.less fun a z => .inl (sub a z))

theorem psd_pass {pos} : PSd X W (.Pass pos) sPass := ⟨_, ps_pass, sd_pass⟩
theorem psd_brk {pos} : PSd X W (.Break pos) sBrk := ⟨_, ps_break, sd_brk⟩
theorem psd_cont {pos} : PSd X W (.Continue pos) sCont := ⟨_, ps_continue, sd_cont⟩
theorem psd_retN {pos} : PSd X W (.Return none pos) sRetN := ⟨_, ps_retN, sd_retN⟩
theorem psd_ret {e : Expr} {a : SE} {pos} (h : PEd X W e a) : PSd X W (.Return (some e) pos) (sRet a) := by
  obtain ⟨te, h1, h2⟩ := h
  exact ⟨_, ps_ret h1, sd_ret h2⟩
theorem psd_expr {e : Expr} {a : SE} {pos : Pos} (h : PEd X W e a) (hs : swapsWith e none pos.line X.env = pure false := by rfl) : PSd X W (.Expr e pos) (sExpr a) := by
  obtain ⟨te, h1, h2⟩ := h
  exact ⟨_, ps_expr h1 hs, sd_expr h2⟩
theorem psd_if {c : Expr} {a b : List Stmt} {sc : ST} {sa sb : SS} {pos} (hc : PTd X W c sc) (ha : PBd X W a sa) (hb : PBd X W b sb) : PSd X W (.If c a b pos) (sIf sc sa sb) := by
  obtain ⟨tc, c1, c2⟩ := hc
  obtain ⟨ta, a1, a2⟩ := ha
  obtain ⟨tb, b1, b2⟩ := hb
  exact ⟨_, ps_if c1 a1 b1, sd_ifS c2 a2 b2⟩
theorem psd_set (i : Nat) {x : Str} {e : Expr} {a : SE} {pos' pos : Pos} (hN : X.N.Nodup) (h : PEd X W e a) (hi : X.N[i]? = some x := by rfl) (hx : Loc X.env.scope x := by first | exact .inl rfl | exact .inr rfl)
    (hs : swapsWith e (some (.Name x pos')) pos.line X.env = pure false := by rfl) (hf : X.fn x = true ∨ X.env.scope.names.lookup x = some .local := by first | exact .inl rfl | exact .inr rfl) : PSd X W (.Assign [.Name x pos'] e pos) (sSet i a) := by
  obtain ⟨te, h1, h2⟩ := h
  exact ⟨_, ps_set hN hi hx h1 hs hf, sd_set i h2⟩
theorem psd_asg {tg e : Expr} {a : SE} {t : Tg} {pos : Pos} (hg : PGd X tg t) (h : PEd X W e a) (hs : swapsWithSole [tg] e pos.line X.env = pure false := by rfl) (hw : swappedStores [tg] e X.env = pure none := by rfl)
    (h1 : (assignEach [tg] X.env).map (·.2) = [assign tg X.env] := by rfl) : PSd X W (.Assign [tg] e pos) (sAsg t a) := by
  obtain ⟨g, g1, g2⟩ := hg
  obtain ⟨te, e1, e2⟩ := h
  exact ⟨_, ps_asg e1 g1 hs hw h1, sd_asg g2 e2⟩
theorem pbd_nil : PBd X W [] sPass := ⟨_, pss_nil, sd_pass⟩
theorem pbd_cons {st : Stmt} {rest : List Stmt} {a b : SS} (h : PSd X W st a) (k : PBd X W rest b) : PBd X W (st :: rest) (sSeq a b) := by
  obtain ⟨t, h1, h2⟩ := h
  obtain ⟨u, k1, k2⟩ := k
  exact ⟨_, pss_cons h1 k1, sd_seq h2 k2⟩
theorem pbd_one {st : Stmt} {a : SS} (h : PSd X W st a) : PBd X W [st] a := by
  obtain ⟨t, h1, h2⟩ := h
  exact ⟨_, pss_one h1, h2⟩

/-! ### what is walked -/
abbrev SI := Env → Out (List D)
def Yl (K : PySem.W.Frag) (J : It) (l : List D) (H0 : Hp) : Prop := ∀ H, Ext H0 H → ∀ i, (i < l.length → J.go i H) ∧ (l.length ≤ i → J.stop i H) ∧ ∀ x H', i < l.length → J.yld i H x H' → ∃ d, l[i]? = some d ∧ RI K H' d x ∧ Grow (fun _ => False) H H'
def SdI (K : PySem.W.Frag) (mg : Str → Option Value) (W : WX) (wi : TI) (si : SI) : Prop := ∀ P σ H F ρ R, EnvR K P H F ρ σ → PostO K mg P W σ (fun H _ l J => Yl K J l H) R F H (si ρ) → wi σ H R
def PId (X : Cx) (W : WX) (tg iter : Expr) (si : SI) : Prop := ∃ wi, PI X tg iter wi ∧ SdI X.K X.mg W wi si
def iAny (K : PySem.W.Frag) (tl : TE) : TI := fun σ H R => tl σ H fun x H1 => (∃ a, x = .ref a ∧ (∃ xs, SqL K H1 a xs) ∧ R (Itl K a) H1) ∨ (∃ a, x = .ref a ∧ (∃ xs, SqT K H1 a xs) ∧ R (Itt K a) H1) ∨ ∃ z, x = .str z ∧ R (Its z) H1
theorem pi_any {tg l : Expr} {tl : TE} (hl : PE X l tl) : PI X tg l (iAny X.K tl) := by
  refine ⟨fun pins s σ H R I h => ?_⟩
  refine thn (hl.run pins s σ H _ I h) fun v s1 hh => ?_
  obtain ⟨x, H1, I1, r1, q1⟩ := hh
  rcases q1 with ⟨a, e, ⟨xs, hq⟩, q⟩ | ⟨a, e, ⟨xs, hq⟩, q⟩ | ⟨z, e, q⟩
  · subst e
    cases r1
    obtain ⟨its, rv, p, hz⟩ := I1.list hq
    exact wpAny_pyIter_list p.isList (pi_one (tk := s1.toks) I1 _ (turn_list a _) ⟨_, Heap.get?_push_size _ rfl, rfl, rfl⟩ q)
  · subst e
    cases r1
    obtain ⟨its, rv, p, hz⟩ := I1.tuple hq
    exact wpAny_pyIter_tuple (show s1.heap.IsTuple a its.toArray from p) (pi_one (tk := s1.toks) I1 _ (turn_tuple a _) ⟨_, Heap.get?_push_size _ rfl, rfl, rfl⟩ q)
  · subst e
    obtain ⟨t, rfl⟩ := r1
    cases ha : z.cps.all (· < 128)
    · exact wpAny_pyIter_wide ha (pi_one (tk := s1.toks) I1 _ (turn_str _ z t "str_iterator" (.inr rfl)) ⟨_, Heap.get?_push_size _ rfl, rfl, rfl⟩ q)
    · exact wpAny_pyIter_ascii ha (pi_one (tk := s1.toks) I1 _ (turn_str _ z t "str_ascii_iterator" (.inl rfl)) ⟨_, Heap.get?_push_size _ rfl, rfl, rfl⟩ q)
def itemsD : D → Option (List D)
  | .lst l => some l
  | .tup l => some l
  | .str s => some (s.map fun c => .str [c])
  | _ => none
def iOf (a : SE) : SI := fun ρ => (a ρ).bind fun v ρ1 => match v with
  | .imm d => match itemsD d with
    | some l => .ok l ρ1
    | none => .fail
  | _ => .fail
theorem sdi_of {tl : TE} {a : SE} (ha : SdE K mg W tl a) : SdI K mg W (iAny K tl) (iOf a) := by
  intro P σ H F ρ R E h
  refine ha P σ H F ρ _ E ?_
  unfold iOf at h
  cases ea : a ρ with
  | fail => rw [ea] at h; exact h
  | exc x ρ1 => rw [ea] at h; exact h
  | ok v ρ1 =>
    rw [ea, Out.bind_ok] at h
    intro u H1 F1 S1 E1 R1 dj1 f1
    cases v with
    | ref j => exact h.elim
    | own d => exact h.elim
    | imm d =>
      dsimp only at h
      cases q : itemsD d with
      | none => rw [q] at h; exact h.elim
      | some l =>
        rw [q] at h
        have fin : ∀ J, Yl K J l H1 → R J H1 := fun J y => (h.from f1) J H1 F1 (fun _ => False) E1 y (fun _ _ _ z => z) (addS (Frm.refl _ _))
        cases d with
        | lst m =>
          cases q
          obtain ⟨a, vs, e, hl, rs⟩ := R1
          refine .inl ⟨a, e, ⟨vs, hl.sq⟩, fin _ fun H2 x2 i => ⟨fun hi => ?_, fun hi => ⟨vs, (hl.mono x2).sq, by rw [rs.length]; exact hi⟩, fun x H3 hi y => ?_⟩⟩
          · exact ⟨vs, vs[i]'(by rw [rs.length]; exact hi), (hl.mono x2).sq, by simp [rs.length, hi]⟩
          · obtain ⟨e3, y⟩ := y
            subst e3
            have hx := y vs (hl.mono x2).sq
            obtain ⟨v, hv, rv⟩ := rs.get (i := i) (d := l[i]) (by simp [hi])
            rw [hv] at hx
            cases hx
            exact ⟨l[i], by simp [hi], RI.mono x2 rv, Grow.refl fun _ z => z⟩
        | tup m =>
          cases q
          obtain ⟨a, vs, e, hl, rs⟩ := R1
          refine .inr (.inl ⟨a, e, ⟨vs, SqT.of hl⟩, fin _ fun H2 x2 i => ⟨fun hi => ?_, fun hi => ⟨vs, SqT.of (x2.t _ _ hl), by rw [rs.length]; exact hi⟩, fun x H3 hi y => ?_⟩⟩)
          · exact ⟨vs, vs[i]'(by rw [rs.length]; exact hi), SqT.of (x2.t _ _ hl), by simp [rs.length, hi]⟩
          · obtain ⟨e3, y⟩ := y
            subst e3
            have hx := y vs (SqT.of (x2.t _ _ hl))
            obtain ⟨v, hv, rv⟩ := rs.get (i := i) (d := l[i]) (by simp [hi])
            rw [hv] at hx
            cases hx
            exact ⟨l[i], by simp [hi], RI.mono x2 rv, Grow.refl fun _ z => z⟩
        | str z =>
          cases q
          cases R1
          have hsz : (mkS z).cps.size = z.length := by simp [mkS]
          refine .inr (.inr ⟨_, rfl, fin _ fun H2 x2 i => ⟨fun hi => by rw [List.length_map] at hi; show i < (mkS z).cps.size; rw [hsz]; exact hi, fun hi => by rw [List.length_map] at hi; show (mkS z).cps.size ≤ i; rw [hsz]; exact hi, fun x H3 hi y => ?_⟩⟩)
          obtain ⟨e3, c, hc, ev⟩ := y
          subst e3 ev
          have hc' : z[i]? = some c := by simpa [mkS] using hc
          exact ⟨.str [c], by rw [List.getElem?_map, hc']; rfl, by show V.str _ = V.str _; rfl, Grow.refl fun _ z => z⟩
        | _ => cases q
theorem pid_of {tg l : Expr} {a : SE} (h : PEd X W l a) : PId X W tg l (iOf a) := by
  obtain ⟨te, h1, h2⟩ := h
  exact ⟨_, pi_any h1, sdi_of h2⟩
def rngD (lo : Int) (n : Nat) : List D := (List.range n).map fun i => .int (lo + (i : Nat))
theorem yl_rng {H : Hp} {lo : Int} {n : Nat} : Yl K (Itr lo n) (rngD lo n) H := fun H2 x2 i => by
  have hl : (rngD lo n).length = n := by simp [rngD]
  refine ⟨fun hi => by rw [hl] at hi; exact hi, fun hi => by rw [hl] at hi; exact hi, fun x H3 hi y => ?_⟩
  obtain ⟨e3, ev⟩ := y
  subst e3 ev
  rw [hl] at hi
  exact ⟨.int (lo + i), by simp [rngD, hi], rfl, Grow.refl fun _ z => z⟩
def small62 (i : Int) : Bool := decide (-(2 ^ 62) ≤ i) && decide (i < 2 ^ 62)
def iRng (a : SA) : SI := fun ρ => (a ρ).bind fun vs ρ1 => match vs with
  | [.imm (.int j)] => if small62 j then .ok (rngD 0 j.toNat) ρ1 else .fail
  | [.imm (.int i), .imm (.int j)] => if small62 i && small62 j then .ok (rngD i (j - i).toNat) ρ1 else .fail
  | _ => .fail
theorem small62_ok {i : Int} (h : small62 i = true) : -(2 ^ 62) ≤ i ∧ i < 2 ^ 62 := by
  unfold small62 at h
  rw [Bool.and_eq_true, decide_eq_true_eq, decide_eq_true_eq] at h
  exact h
theorem sdi_rng1 {ta : TA} {a : SA} (hl : ∀ ρ vs ρ1, a ρ = .ok vs ρ1 → vs.length = 1) (ha : SdA K mg W ta a) : SdI K mg W (L2.iRng1 ta) (iRng a) := by
  intro P σ H F ρ R E h
  refine ha P σ H F ρ _ E ?_
  unfold iRng at h
  cases ea : a ρ with
  | fail => rw [ea] at h; exact h
  | exc x ρ1 => rw [ea] at h; exact h
  | ok v ρ1 =>
    have hl1 := hl _ _ _ ea
    rw [ea, Out.bind_ok] at h
    intro u H1 F1 S1 E1 R1 dj1 f1
    split at h
    · rename_i j
      split at h
      · rename_i hs
        obtain ⟨w, r, e1, e2, e3⟩ := R1
        cases e2; cases e3
        have z := small62_ok hs
        exact ⟨j, e1, z.1, z.2, (h.from f1) _ H1 F1 (fun _ => False) E1 yl_rng (fun _ _ _ z => z) (addS (Frm.refl _ _))⟩
      · exact h.elim
    · simp at hl1
    · exact h.elim
theorem sdi_rng2 {ta : TA} {a : SA} (hl : ∀ ρ vs ρ1, a ρ = .ok vs ρ1 → vs.length = 2) (ha : SdA K mg W ta a) : SdI K mg W (L2.iRng2 ta) (iRng a) := by
  intro P σ H F ρ R E h
  refine ha P σ H F ρ _ E ?_
  unfold iRng at h
  cases ea : a ρ with
  | fail => rw [ea] at h; exact h
  | exc x ρ1 => rw [ea] at h; exact h
  | ok v ρ1 =>
    have hl1 := hl _ _ _ ea
    rw [ea, Out.bind_ok] at h
    intro u H1 F1 S1 E1 R1 dj1 f1
    split at h
    · simp at hl1
    · rename_i i j
      split at h
      · rename_i hs
        rw [Bool.and_eq_true] at hs
        obtain ⟨w, r, e1, e2, w', r', e4, e5, e6⟩ := R1
        cases e2; cases e5; cases e6
        subst e4
        have z := small62_ok hs.1
        have z2 := small62_ok hs.2
        exact ⟨i, j, e1, ⟨z.1, z.2, z2.1, z2.2⟩, (h.from f1) _ H1 F1 (fun _ => False) E1 yl_rng (fun _ _ _ z => z) (addS (Frm.refl _ _))⟩
      · exact h.elim
    · exact h.elim
theorem aCons_len {a : SE} {b : SA} {n : Nat} (hb : ∀ ρ vs ρ1, b ρ = .ok vs ρ1 → vs.length = n) : ∀ ρ vs ρ1, aCons a b ρ = .ok vs ρ1 → vs.length = n + 1 := by
  intro ρ vs ρ1 h
  unfold aCons at h
  cases ea : a ρ with
  | fail => rw [ea] at h; cases h
  | exc x ρ1 => rw [ea] at h; cases h
  | ok v ρ2 =>
    rw [ea, Out.bind_ok] at h
    have main : ∀ {v}, ((b ρ2).bind fun vs ρ2 => Out.ok (v :: vs) ρ2) = .ok vs ρ1 → vs.length = n + 1 := fun {v} h => by
      cases eb : b ρ2 with
      | fail => rw [eb] at h; cases h
      | exc x ρ1 => rw [eb] at h; cases h
      | ok w ρ3 => rw [eb] at h; cases h; rw [List.length_cons, hb _ _ _ eb]
    cases v with
    | own d => cases h
    | imm d => exact main h
    | ref i => exact main h
theorem aNil_len : ∀ ρ vs ρ1, aNil ρ = .ok vs ρ1 → vs.length = 0 := fun ρ vs ρ1 h => by cases h; rfl
theorem pid_rng1 {tg a : Expr} {p pos : Pos} {s : SE} (hm : X.mg "range" = none) (ha : PAd X W [a] (aCons s aNil)) (hg : Gl X "range" := by rfl) (hs : starEach [a] X.env = [(false, eval a X.env)] := by rfl) : PId X W tg (.Call (.Name "range" p) [a] [] pos) (iRng (aCons s aNil)) := by
  obtain ⟨ta, a1, a2⟩ := ha
  exact ⟨_, pi_range1 hg hm a1 hs, sdi_rng1 (aCons_len aNil_len) a2⟩
theorem pid_rng2 {tg a b : Expr} {p pos : Pos} {s t : SE} (hm : X.mg "range" = none) (ha : PAd X W [a, b] (aCons s (aCons t aNil))) (hg : Gl X "range" := by rfl) (hs : starEach [a, b] X.env = [(false, eval a X.env), (false, eval b X.env)] := by rfl)
    (hs2 : starEach [b] X.env = [(false, eval b X.env)] := by rfl) : PId X W tg (.Call (.Name "range" p) [a, b] [] pos) (iRng (aCons s (aCons t aNil))) := by
  obtain ⟨ta, a1, a2⟩ := ha
  exact ⟨_, pi_range2 hg hm a1 hs hs2, sdi_rng2 (aCons_len (aCons_len aNil_len)) a2⟩

/-! ### loops -/
def forL (t : Tg) (body : SS) : List D → Env → SOut
  | [], ρ => .nx ρ
  | d :: l, ρ => match setT t d ρ with
    | none => .fail
    | some ρ1 => match body ρ1 with
      | .nx ρ2 => forL t body l ρ2
      | .ct ρ2 => forL t body l ρ2
      | .bk ρ2 => .nx ρ2
      | .rt v ρ2 => .rt v ρ2
      | .exc x ρ2 => .exc x ρ2
      | .fail => .fail
def sFor (si : SI) (t : Tg) (body : SS) : SS := fun ρ => match si ρ with
  | .ok l ρ1 => forL t body l ρ1
  | .exc x ρ1 => .exc x ρ1
  | .fail => .fail
theorem sd_for {wi : TI} {g : TG} {tb : TS} {si : SI} {t : Tg} {body : SS} (hi : SdI K mg W wi si) (hg : SdG K g t) (hb : SdS K mg W tb body) : SdS K mg W (tFor wi g tb) (sFor si t body) := by
  intro P σ H F ρ D E h
  refine hi P σ H F ρ _ E ?_
  unfold sFor at h
  cases ea : si ρ with
  | fail => rw [ea] at h; exact h
  | exc x ρ1 => rw [ea] at h; exact fun cls d H1 F1 E1 r f => h cls d σ H1 F1 E1 r f
  | ok l ρ1 =>
    rw [ea] at h
    intro J H1 F1 S1 E1 Y dj1 f1
    refine ⟨fun i m σ' H' => m = l.length - i ∧ i ≤ l.length ∧ ∃ F' ρ', EnvR K P H' F' ρ' σ' ∧ Ext H1 H' ∧ PostS K mg P W D F' H' (forL t body (l.drop i) ρ'), ⟨_, rfl, Nat.zero_le _, F1, ρ1, E1, Ext.refl _, by rw [List.drop_zero]; exact h.from f1⟩, ?_⟩
    rintro i m σ' H' ⟨rfl, hi, F', ρ', E', x', p⟩
    by_cases hlt : i < l.length
    · refine .inr ⟨(Y H' x' i).1 hlt, fun σ2 H2 => ∃ m', m' < l.length - i ∧ (m' = l.length - (i + 1) ∧ i + 1 ≤ l.length ∧ ∃ F' ρ', EnvR K P H2 F' ρ' σ2 ∧ Ext H1 H2 ∧ PostS K mg P W D F' H2 (forL t body (l.drop (i + 1)) ρ')), fun _ _ z => z, fun x H2 y => ?_⟩
      obtain ⟨d, hd, r, g⟩ := (Y H' x' i).2.2 x H2 hlt y
      have ed : l.drop i = d :: l.drop (i + 1) := by
        have e := List.drop_eq_getElem_cons hlt
        rw [List.getElem?_eq_getElem hlt] at hd
        cases hd
        exact e
      rw [ed] at p
      have E2 := E'.grow g
      have p2 : PostS K mg P W D F' H2 (forL t body (d :: l.drop (i + 1)) ρ') := p.from ((Frm.of_grow (U := PF.Un F') g).less fun a z => z.elim (fun z => .inl z) (fun z => .inr z))
      unfold forL at p2
      cases es : setT t d ρ' with
      | none => rw [es] at p2; exact p2.elim
      | some ρ2 =>
        rw [es] at p2
        refine hg P σ' H2 F' ρ' d x ρ2 _ E2 r es fun σ3 F3 E3 sub _ => ?_
        have f3 : Frm (PF.Un F') (fun a => PF.Un F3 a ∨ (fun _ => False) a) H2 H2 := (Frm.refl _ _).less fun a z => z.elim (sub a) False.elim
        refine hb P σ3 H2 F3 ρ2 _ E3 ?_
        have p3 := p2.from f3
        dsimp only at p3
        have again : ∀ ρ4, PostS K mg P W D F3 H2 (forL t body (l.drop (i + 1)) ρ4) → ∀ σ4 H4 F4, EnvR K P H4 F4 ρ4 σ4 → Frm (PF.Un F3) (PF.Un F4) H2 H4 → ∃ m', m' < l.length - i ∧ (m' = l.length - (i + 1) ∧ i + 1 ≤ l.length ∧ ∃ F' ρ', EnvR K P H4 F' ρ' σ4 ∧ Ext H1 H4 ∧ PostS K mg P W D F' H4 (forL t body (l.drop (i + 1)) ρ')) :=
          fun ρ4 q σ4 H4 F4 E4 f4 => ⟨_, by omega, rfl, hlt, F4, ρ4, E4, (x'.trans g.ext).trans f4.ext, q.from (addS f4)⟩
        cases eb : body ρ2 with
        | nx ρ4 => rw [eb] at p3; exact again ρ4 p3
        | ct ρ4 => rw [eb] at p3; exact again ρ4 p3
        | bk ρ4 => rw [eb] at p3; exact p3
        | rt v ρ4 => rw [eb] at p3; exact p3
        | exc x ρ4 => rw [eb] at p3; exact p3
        | fail => rw [eb] at p3; exact p3
    · have e : i = l.length := by omega
      subst e
      rw [List.drop_length] at p
      exact .inl ⟨(Y H' x' _).2.1 (Nat.le_refl _), p σ' H' F' E' (Frm.refl _ _)⟩
theorem psd_for {tg iter : Expr} {body : List Stmt} {si : SI} {t : Tg} {b : SS} {pos : Pos} {k : Nat} (C : Ctx X W k) (hi : PId X W tg iter si) (hg : PGd X tg t) (hb : PBd X W body b) (hs : ∀ x, foldedSetIterable iter X.env x = pure x := by intro _; rfl) :
    PSd X W (.For tg iter body [] pos) (sFor si t b) := by
  obtain ⟨wi, i1, i2⟩ := hi
  obtain ⟨g, g1, g2⟩ := hg
  obtain ⟨tb, b1, b2⟩ := hb
  exact ⟨_, ps_for C.hp C.calm i1 g1 b1 hs, sd_for i2 g2 b2⟩
def whileL (c : ST) (body : SS) : Nat → Env → SOut
  | 0, _ => .fail
  | n + 1, ρ => match c ρ with
    | .fail => .fail
    | .exc x ρ1 => .exc x ρ1
    | .ok false ρ1 => .nx ρ1
    | .ok true ρ1 => match body ρ1 with
      | .nx ρ2 => whileL c body n ρ2
      | .ct ρ2 => whileL c body n ρ2
      | .bk ρ2 => .nx ρ2
      | .rt v ρ2 => .rt v ρ2
      | .exc x ρ2 => .exc x ρ2
      | .fail => .fail
open Classical in
noncomputable def sWhile (c : ST) (body : SS) : SS := fun ρ => if h : ∃ n, whileL c body n ρ ≠ .fail then whileL c body (Classical.choose h) ρ else .fail
theorem whileL_more {c : ST} {body : SS} : ∀ {n : Nat} {ρ : Env} (m : Nat), whileL c body n ρ ≠ .fail → n ≤ m → whileL c body m ρ = whileL c body n ρ
  | 0, ρ, m, h, _ => absurd rfl h
  | n + 1, ρ, m, h, hm => by
    obtain ⟨m, rfl⟩ : ∃ k, m = k + 1 := ⟨m - 1, by omega⟩
    unfold whileL at h ⊢
    cases ec : c ρ with
    | fail => rfl
    | exc x ρ1 => rfl
    | ok b ρ1 =>
      cases b with
      | false => rfl
      | true =>
        rw [ec] at h
        dsimp only at h ⊢
        cases eb : body ρ1 with
        | nx ρ2 => rw [eb] at h; exact whileL_more m h (by omega)
        | ct ρ2 => rw [eb] at h; exact whileL_more m h (by omega)
        | _ => rfl
theorem sWhile_eq {c : ST} {body : SS} {n : Nat} {ρ : Env} (h : whileL c body n ρ ≠ .fail) : sWhile c body ρ = whileL c body n ρ := by
  unfold sWhile
  have hex : ∃ n, whileL c body n ρ ≠ .fail := ⟨n, h⟩
  rw [dif_pos hex]
  have h2 := Classical.choose_spec hex
  rcases Nat.le_total n (Classical.choose hex) with z | z
  · exact whileL_more _ h z
  · exact (whileL_more _ h2 z).symm
theorem sd_while {tc : TT} {tb : TS} {c : ST} {body : SS} (hc : SdT K mg W tc c) (hb : SdS K mg W tb body) : SdS K mg W (tWhile tc tb) (sWhile c body) := by
  intro P σ H F ρ D E h
  have hex : ∃ n, sWhile c body ρ = whileL c body n ρ := by
    unfold sWhile
    split
    · exact ⟨_, rfl⟩
    · exact ⟨0, rfl⟩
  obtain ⟨n, hn⟩ := hex
  rw [hn] at h
  refine ⟨fun m σ' H' => ∃ F' ρ', EnvR K P H' F' ρ' σ' ∧ PostS K mg P W D F' H' (whileL c body m ρ'), ⟨n, F, ρ, E, h⟩, ?_⟩
  rintro m σ' H' ⟨F', ρ', E', p⟩
  cases m with
  | zero => exact p.elim
  | succ m =>
    refine hc P σ' H' F' ρ' _ E' ?_
    unfold whileL at p
    cases ec : c ρ' with
    | fail => rw [ec] at p; exact p
    | exc x ρ1 => rw [ec] at p; exact fun cls d H1 F1 E1 r f => p cls d σ' H1 F1 E1 r f
    | ok b ρ1 =>
      rw [ec] at p
      intro k H1 F1 S1 E1 R1 dj1 f1
      cases R1
      cases b with
      | false => exact iteF (p σ' H1 F1 E1 (f1.less fun _ z => .inl z))
      | true =>
        refine iteT ⟨fun σ2 H2 => ∃ m', m' < m + 1 ∧ ∃ F' ρ', EnvR K P H2 F' ρ' σ2 ∧ PostS K mg P W D F' H2 (whileL c body m' ρ'), fun _ _ z => z, ?_⟩
        dsimp only at p
        refine hb P σ' H1 F1 ρ1 _ E1 ?_
        have p3 := p.from f1
        have again : ∀ ρ4, PostS K mg P W D F1 H1 (whileL c body m ρ4) → ∀ σ4 H4 F4, EnvR K P H4 F4 ρ4 σ4 → Frm (PF.Un F1) (PF.Un F4) H1 H4 → ∃ m', m' < m + 1 ∧ ∃ F' ρ', EnvR K P H4 F' ρ' σ4 ∧ PostS K mg P W D F' H4 (whileL c body m' ρ') :=
          fun ρ4 q σ4 H4 F4 E4 f4 => ⟨m, Nat.lt_succ_self _, F4, ρ4, E4, q.from (addS f4)⟩
        cases eb : body ρ1 with
        | nx ρ4 => rw [eb] at p3; exact again ρ4 p3
        | ct ρ4 => rw [eb] at p3; exact again ρ4 p3
        | bk ρ4 => rw [eb] at p3; exact p3
        | rt v ρ4 => rw [eb] at p3; exact p3
        | exc x ρ4 => rw [eb] at p3; exact p3
        | fail => rw [eb] at p3; exact p3
theorem psd_while {c : Expr} {body : List Stmt} {sc : ST} {b : SS} {pos : Pos} {k : Nat} (C : Ctx X W k) (hc : PTd X W c sc) (hb : PBd X W body b) : PSd X W (.While c body [] pos) (sWhile sc b) := by
  obtain ⟨tc, c1, c2⟩ := hc
  obtain ⟨tb, b1, b2⟩ := hb
  exact ⟨_, ps_while C.hp c1 b1, sd_while c2 b2⟩
end
end PF

/-! list(reversed(xs)), a list xs -/
namespace PF
open PySem PySem.Calls PyProof.Rows
section
variable {prog : Program} {w : World} {A : Around} {E : Value → Shared → Prop} {z : Shared}
def Backw (its : Array Value) : Nat → Value → Prop := fun j v => its[its.size - 1 - j]? = some v
theorem lrev_ext {R : Result → Shared → Prop} {r l : Addr} {its : Array Value} (hh : A.handled = none) (hr : z.heap.IsRevIter r l ((its.size : Int) - 1)) (hl : z.heap.IsList l its) (lr : l ≠ r) (hn : its.size ≤ sizeLine)
    (S : Addr) (Sr : S ≠ r) (Sl : S ≠ l) (c0 : Nat) (hS : z.heap.get? S = some { cls := .type "list", data := .seq #[] c0 })
    (k : ∀ h' tk acc c', (∀ b o, b ≠ S → b ≠ r → z.heap.get? b = some o → h'.get? b = some o) → h'.get? S = some { cls := .type "list", dict := none, data := .seq acc c', slots := #[] } → ItemsOf (Backw its) acc its.size → R (.ok (.ret .none)) { z with heap := h', toks := tk }) :
    wpAny (model prog w) A.in1 (Builtin.List.listExtendWith (.ref S) (.ref r) .none)
      (fun fin z' => match fin with
        | .done f => R (.ok f) z'
        | .again c' => c'.quiet = true ∧ codeAny (model prog w) A c' R z') (fun e z' => R (.error e) z') z := by
  have Wk := (Walks.listRev (prog := prog) (w := w) (A := A.in1) hh r l lr its).toS
  have Sf : S ∉ [r, l] := by simp [Sr, Sl]
  have ty : z.TypeIs (.ref r) "list_reverseiterator" := Heap.IsRevIter.typeIs hr
  have ns : Builtin.List.listSameRef (.ref S) (.ref r) = false := by simp [Builtin.List.listSameRef, Sr]
  unfold Builtin.List.listExtendWith
  refine wpAny_bind (wpAny_typeOf ty ?_)
  rw [if_neg (show ¬ _ = true by rw [ns]; decide)]
  refine wpAny_bind (wpAny_pyIter_revIter hr ?_)
  refine wpAny_bind (wpAny_holding ?_)
  unfold Builtin.List.listLengthHint
  refine wpAny_bind (wpAny_specialOf ty RT.nolen_lri ?_)
  show wpAny _ A.in1 (specialOf (.ref r) (Str.ofString "__length_hint__") >>= fun _ => _) _ _ _
  refine wpAny_bind (wpAny_specialOf ty RT.hint_lri ?_)
  generalize hw : ("list_reverseiterator.__length_hint__" : String) = wd
  wp_delta
  rw [show splitId wd = some ("list_reverseiterator", "__length_hint__") by subst hw; decide +kernel]
  subst hw
  refine wpAny_bind (wpAny_isInstance (b := true) ty (by rw [isSubtype_type] <;> kernel_rfl) ?_)
  refine wpAny_pure ?_
  rw [if_neg (show ¬ _ = true by decide)]
  have e1 : ((its.size : Nat) : Int) - 1 - ((0 : Nat) : Int) = (its.size : Int) - 1 := by omega
  refine wpAny_pure ⟨plainId_quiet F.plain_extend_loop _, codeAny_extend_loopS Wk hn S Sf .none its.size 0 _ #[] c0 rfl (Nat.zero_le _) ⟨Nat.zero_le _, by rw [e1]; exact hr, hl⟩ hS (ItemsOf.nil _) fun z' acc c' mv hS' ha => ?_⟩
  rw [Moved.eq_with mv]
  refine k z'.heap z'.toks acc c' (fun b o hb hb2 e => mv.heap b o (fun hm => ?_) e) hS' ha
  rcases List.mem_cons.mp hm with q | q
  · exact hb q
  · exact hb2 (List.mem_singleton.mp q)
theorem lrev_call {Q : Value → Shared → Prop} {r l : Addr} {its : Array Value} (hh : A.handled = none) (hr : z.heap.IsRevIter r l ((its.size : Int) - 1)) (hl : z.heap.IsList l its) (lr : l ≠ r) (hn : its.size ≤ sizeLine)
    (k : ∀ h' tk acc c', (∀ b o, b ≠ r → z.heap.get? b = some o → h'.get? b = some o) → h'.get? z.heap.objs.size = some { cls := .type "list", dict := none, data := .seq acc c', slots := #[] } → ItemsOf (Backw its) acc its.size → Q (.ref z.heap.objs.size) { z with heap := h', toks := tk }) :
    wpAny (model prog w) A (call (.type "list") [.ref r]) Q E z := by
  refine callType_codes (Q₁ := fun ob z1 => ob = .ref z.heap.objs.size ∧ z1 = { z with heap := z.heap.push { cls := .type "list", data := .seq #[] } }) PySem.F.called_list (PySem.F.typeCall_list_1 _) PySem.F.entry_list_init (code_list_new _ ⟨rfl, rfl⟩) fun ob z1 hz => ?_
  obtain ⟨rfl, rfl⟩ := hz
  generalize hSd : z.heap.objs.size = S
  have hS : (z.heap.push { cls := .type "list", data := .seq #[] }).get? S = some { cls := .type "list", data := .seq #[] } := by rw [← hSd]; exact Heap.get?_push_size _ rfl
  obtain ⟨orr, hor, _⟩ := id hr
  obtain ⟨ol, hol, _⟩ := id hl
  have Sr : S ≠ r := by rw [← hSd]; exact Nat.ne_of_gt (Heap.lt_size hor)
  have Sl : S ≠ l := by rw [← hSd]; exact Nat.ne_of_gt (Heap.lt_size hol)
  refine ⟨⟨_, hS, rfl⟩, PySem.F.args_list_init_2 _ _, ?_⟩
  show wpAny _ _ (Builtin.List.listItems (.ref S) >>= fun old => Builtin.List.listUpdate (.ref S) (fun _ => #[]) >>= fun _ => letGo old.toList.reverse >>= fun _ => Builtin.List.listExtendWith (.ref S) (.ref r) .none) _ _ _
  refine wpAny_bind ?_
  unfold Builtin.List.listItems
  refine wpAny_bind (wpAny_seqItems hS rfl ?_)
  refine wpAny_pure ?_
  show wpAny _ _ (updateSeq S (fun _ => (#[] : Array Value)) >>= fun _ => letGo ((#[] : Array Value).toList.reverse) >>= fun _ => Builtin.List.listExtendWith (.ref S) (.ref r) .none) _ _ _
  refine wpAny_bind (wpAny_updateSeq hS rfl ?_)
  have hS2 := Heap.get?_update_self (Obj.mapSeq (fun _ => (#[] : Array Value))) hS rfl
  have old : ∀ b o, b ≠ S → z.heap.get? b = some o → ((z.heap.push { cls := .type "list", data := .seq #[] }).update S (Obj.mapSeq (fun _ => (#[] : Array Value)))).get? b = some o :=
    fun b o hb e => (Heap.get?_update_other _ _ hb.symm).trans (Heap.get?_push_of_some _ e)
  refine wpAny_bind (wpAny_letGo ?_)
  refine lrev_ext (A := A.in1) hh (hr.at fun o e => old r o Sr.symm e) (hl.at fun o e => old l o Sl.symm e) lr hn S Sr Sl _ hS2 fun h' tk acc c' kk hS' ha => ?_
  subst hSd
  exact ⟨rfl, k h' tk acc c' (fun b o hb e => kk b o (Nat.ne_of_lt (Heap.lt_size e)) hb (old b o (Nat.ne_of_lt (Heap.lt_size e)) e)) hS' ha⟩
end
end PF
namespace PF
open PySem PySem.Spec PyProof.Rows
open L2
theorem backw_vals {xs : List V} {its : List Value} {acc : Array Value} (r : Vals xs its) (h : ItemsOf (Backw its.toArray) acc its.toArray.size) : Vals xs.reverse acc.toList := by
  have e : acc.toList = its.reverse := by
    apply List.ext_getElem?
    intro j
    have hs : acc.size = its.length := by have := h.1; simpa using this
    by_cases hj : j < its.length
    · have h1 : acc[j]? = some (acc[j]'(by omega)) := Array.getElem?_eq_getElem (by omega)
      have h2 := h.2 j _ h1
      unfold Backw at h2
      rw [Array.getElem?_toList, h1, List.getElem?_reverse hj]
      simpa using h2.symm
    · rw [List.getElem?_eq_none (by simp [hs]; omega), List.getElem?_eq_none (by simp; omega)]
  rw [e]
  exact Vals.reverse r
section
variable {X : Cx} {W : WX} {K : PySem.W.Frag} {mg : Str → Option Value}
def rLrev (K : PySem.W.Frag) : V → Hp → VK → Prop := fun x H Q => ∃ a xs, x = .ref a ∧ SqL K H a xs ∧ ∀ p, H p = none → Q (.ref p) (upd H p (.lst xs.reverse))
theorem pe_lrev {e : Expr} {te : TE} {p1 p2 pos1 pos2 : Pos} (hc : X.calm = true) (hm : X.mg "list" = none) (hm2 : X.mg "reversed" = none) (he : PE X e te) (hg : Gl X "list" := by rfl) (hg2 : Gl X "reversed" := by rfl) (na : starEach [e] X.env = (false, eval e X.env) :: starEach [] X.env := by rfl)
    (nb : starEach [.Call (.Name "reversed" p2) [e] [] pos2] X.env = (false, eval (.Call (.Name "reversed" p2) [e] [] pos2) X.env) :: starEach [] X.env := by rfl) :
    PE X (.Call (.Name "list" p1) [.Call (.Name "reversed" p2) [e] [] pos2] [] pos1) (fun σ H Q => te σ H fun x H1 => rLrev X.K x H1 Q) := by
  refine ⟨fun pins s σ H Q I h => ?_⟩
  refine Call_ (ld_blt I hg hm boot_list (PyProof.Rows.callWith_type1 (args_cons ?_ nb) nb))
  refine Call_ (ld_blt I hg2 hm2 boot_reversed (PyProof.Rows.callWith_type1 (one_arg he I h (fun v s2 x H2 I2 rx q => ?_) na) na))
  obtain ⟨a, xs, ex, hx, q⟩ := q
  subst ex
  cases rx
  obtain ⟨its, rv, pl, hz⟩ := I2.list hx
  refine call_reversed_list pl.isList (args_nil ?_)
  have hlen := rv.length
  have hpl : (s2.heap.push (revObj a ((its.toArray.size : Int) - 1))).IsList a its.toArray := pl.isList.push _
  have hne : a ≠ s2.heap.objs.size := by
    obtain ⟨o, ho, _⟩ := pl.isList
    exact Nat.ne_of_lt (Heap.lt_size ho)
  refine lrev_call (z := { s2 with heap := s2.heap.push (revObj a ((its.toArray.size : Int) - 1)) }) (r := s2.heap.objs.size) (l := a) (its := its.toArray) (I2.ok.hd hc) ⟨_, Heap.get?_push_size _ rfl, rfl, rfl⟩ hpl hne (by rw [List.size_toArray]; omega) fun h' tk acc c' kk hS ha => ?_
  have hold : ∀ b o, s2.heap.get? b = some o → h'.get? b = some o := fun b o e => kk b o (Nat.ne_of_lt (Heap.lt_size e)) (Heap.get?_push_of_some _ e)
  have hsz : (s2.heap.push (revObj a ((its.toArray.size : Int) - 1))).objs.size = s2.heap.objs.size + 1 := Heap.size_push ..
  refine ⟨.ref (s2.heap.push (revObj a ((its.toArray.size : Int) - 1))).objs.size, upd H2 (s2.heap.push (revObj a ((its.toArray.size : Int) - 1))).objs.size (.lst xs.reverse), I2.laid hold (by rw [hsz]; omega) ⟨?_, acc.toList, c', backw_vals rv ha, ?_⟩, rfl, q _ (I2.hok.fresh (by rw [hsz]; omega))⟩
  · rw [List.length_reverse]; exact hz
  · rw [Array.toArray_toList]; exact hS
end
end PF

/-! list comprehensions -/
namespace PF
open PySem PySem.Spec PyProof.Rows
open L2
section
variable {X : Cx} {W : WX} {K : PySem.W.Frag} {mg : Str → Option Value}
def wipeE (ρ : Env) : List Nat → Env
  | [] => ρ
  | i :: vs => (wipeE ρ vs).set i .non
def restE (ρ1 : Env) : List Nat → Env → Env
  | [], ρ => ρ
  | i :: vs, ρ => (restE ρ1 vs ρ).set i (ρ1.getD i .non)
def immAt (ρ : Env) : List Nat → Bool
  | [] => true
  | i :: vs => (match ρ[i]? with
    | some (.imm _) => true
    | some .non => true
    | _ => false) && immAt ρ vs
def lcL (t : Tg) (c : ST) (e : SE) : List D → List D → Env → Out (List D)
  | [], acc, ρ => .ok acc ρ
  | d :: l, acc, ρ => match setT t d ρ with
    | none => .fail
    | some ρ1 => (c ρ1).bind fun k ρ2 => if k then (e ρ2).bind fun v ρ3 => match v with
        | .imm x => if acc.length < big then lcL t c e l (acc ++ [x]) (wipeE ρ3 (tgS t)) else .fail
        | _ => .fail
      else lcL t c e l acc (wipeE ρ2 (tgS t))
def eLc (si : SI) (t : Tg) (c : ST) (e : SE) : SE := fun ρ => (si ρ).bind fun l ρ1 => if immAt ρ1 (tgS t) then match lcL t c e l [] (wipeE ρ1 (tgS t)) with
    | .ok acc ρ2 => .ok (.own (.lst acc)) (restE ρ1 (tgS t) ρ2)
    | _ => .fail
  else .fail
def stYes : ST := fun ρ => .ok true ρ
theorem wipe_get {σ : L2.St} {j : Nat} : ∀ {vs : List Nat}, (wipe σ vs)[j]? = if j ∈ vs then σ[j]?.map fun _ => none else σ[j]?
  | [] => by simp [wipe]
  | v :: vs => by
    unfold wipe
    by_cases e : j = v
    · subst e
      rw [if_pos List.mem_cons_self]
      by_cases hl : j < σ.length
      · rw [List.getElem?_set_self (by rw [wipe_length]; exact hl), List.getElem?_eq_getElem hl]; rfl
      · rw [List.getElem?_eq_none (by rw [List.length_set, wipe_length]; omega), List.getElem?_eq_none (by omega)]; rfl
    · rw [List.set_get_ne e, wipe_get (vs := vs)]
      by_cases hv : j ∈ vs
      · rw [if_pos hv, if_pos (List.mem_cons_of_mem _ hv)]
      · rw [if_neg hv, if_neg (by rw [List.mem_cons, not_or]; exact ⟨e, hv⟩)]
theorem wipe_only {σ σ' : L2.St} {vs : List Nat} (h : Only vs σ σ') : wipe σ' vs = wipe σ vs := by
  apply List.ext_getElem?
  intro j
  rw [wipe_get, wipe_get]
  by_cases hv : j ∈ vs
  · rw [if_pos hv, if_pos hv]
    by_cases hl : j < σ.length
    · have a1 : σ'[j]? = some (σ'[j]'(by rw [h.1]; exact hl)) := List.getElem?_eq_getElem _
      have a2 : σ[j]? = some σ[j] := List.getElem?_eq_getElem hl
      rw [a1, a2]; rfl
    · have a1 : σ'[j]? = none := List.getElem?_eq_none (by rw [h.1]; omega)
      have a2 : σ[j]? = none := List.getElem?_eq_none (by omega)
      rw [a1, a2]
  · rw [if_neg hv, if_neg hv, h.2 j hv]
theorem wipe_wipe {σ : L2.St} {vs : List Nat} : wipe (wipe σ vs) vs = wipe σ vs := by
  refine wipe_only ⟨wipe_length _ _, fun j hj => ?_⟩
  rw [wipe_get, if_neg hj]
theorem wipeE_len {ρ : Env} : ∀ {vs : List Nat}, (wipeE ρ vs).length = ρ.length
  | [] => rfl
  | v :: vs => by unfold wipeE; rw [List.length_set, wipeE_len]
theorem EnvR.wipe1 {P : Nat → Option V} {H : Hp} {F : Nat → FS} {ρ : Env} {σ : L2.St} (E : EnvR K P H F ρ σ) (i : Nat) : ∃ F', EnvR K P H F' (ρ.set i .non) (σ.set i none) ∧ ∀ a, PF.Un F' a → PF.Un F a := by
  by_cases hi : i < ρ.length
  · exact ⟨_, E.put (S := fun _ => False) (s := .non) (o := none) hi trivial (fun _ _ _ z => z) (fun _ z => z.elim), fun a z => (PF.Un.put z).elim id False.elim⟩
  · rw [List.set_eq_of_length_le (by omega), List.set_eq_of_length_le (by rw [E.len]; omega)]
    exact ⟨F, E, fun _ z => z⟩
theorem EnvR.wipe {P : Nat → Option V} {H : Hp} {F : Nat → FS} {ρ : Env} {σ : L2.St} (E : EnvR K P H F ρ σ) : ∀ vs : List Nat, ∃ F', EnvR K P H F' (wipeE ρ vs) (L2.wipe σ vs) ∧ ∀ a, PF.Un F' a → PF.Un F a
  | [] => ⟨F, E, fun _ z => z⟩
  | v :: vs => by
    obtain ⟨F1, E1, s1⟩ := EnvR.wipe E vs
    obtain ⟨F2, E2, s2⟩ := E1.wipe1 v
    exact ⟨F2, E2, fun a z => s1 a (s2 a z)⟩
theorem EnvR.rest {P : Nat → Option V} {H H1 : Hp} {F F1 : Nat → FS} {ρ ρ1 : Env} {σ : L2.St} (E1 : EnvR K P H1 F1 ρ1 σ) (x : Ext H1 H) : ∀ (vs : List Nat), immAt ρ1 vs = true → ∀ {σ' : L2.St}, σ'.length = σ.length → (∀ j, j ∉ vs → σ'[j]? = σ[j]?) → EnvR K P H F ρ σ' → ∃ (F' : Nat → FS) (σ2 : L2.St), EnvR K P H F' (restE ρ1 vs ρ) σ2 ∧ (∀ a, PF.Un F' a → PF.Un F a) ∧ σ2.length = σ.length ∧ (∀ j : Nat, σ2[j]? = σ[j]?)
  | [], _, σ', hl, ho, E => ⟨F, σ', E, fun _ z => z, hl, fun j => ho j (by simp)⟩
  | v :: vs, hi, σ', hl, ho, E => by
    have hi' : ((match ρ1[v]? with
      | some (.imm _) => true
      | some .non => true
      | _ => false) && immAt ρ1 vs) = true := hi
    rw [Bool.and_eq_true] at hi'
    have hvl : v < ρ1.length := by
      by_cases h : v < ρ1.length
      · exact h
      · rw [List.getElem?_eq_none (by omega)] at hi'; cases hi'.1
    -- put the outer content of v first
    have hs : SlR K H (fun _ => False) (P v) (ρ1.getD v .non) σ[v]?.join := by
      have e : ρ1.getD v .non = ρ1[v] := by simp [hvl]
      have z := E1.sl v _ (List.getElem?_eq_getElem hvl)
      rw [List.getElem?_eq_getElem hvl] at hi'
      rw [e]
      cases q : ρ1[v] with
      | non => trivial
      | imm d => rw [q] at z; obtain ⟨u, h1, h2⟩ := z; exact ⟨u, h1, h2.mono x⟩
      | own d => rw [q] at hi'; cases hi'.1
      | par d => rw [q] at hi'; cases hi'.1
    have hv2 : v < ρ.length := by rw [← E.len, hl, E1.len]; exact hvl
    by_cases hmem : v ∈ vs
    · -- v stands twice: the same content once more
      obtain ⟨F2, σ2, E2, s2, l2, o2⟩ := EnvR.rest E1 x vs hi'.2 (σ' := σ') hl (fun j hj => ho j (by rw [List.mem_cons, not_or]; exact ⟨fun e => hj (e ▸ hmem), hj⟩)) E
      have hv3 : v < (restE ρ1 vs ρ).length := by rw [← E2.len, l2, E1.len]; exact hvl
      have E3 := E2.put (S := fun _ => False) (s := ρ1.getD v .non) (o := σ[v]?.join) hv3 hs (fun _ _ _ z => z) (fun _ z => z.elim)
      refine ⟨_, _, E3, fun a z => s2 a ((PF.Un.put z).elim id False.elim), by rw [List.length_set, l2], fun j => ?_⟩
      by_cases e : j = v
      · subst e
        have hl3 : j < σ.length := by rw [E1.len]; exact hvl
        rw [List.getElem?_set_self (by rw [l2]; exact hl3), List.getElem?_eq_getElem hl3]; rfl
      · rw [List.set_get_ne e, o2]
    · -- elsewhere first
      have hv4 : v < σ'.length := by rw [hl, E1.len]; exact hvl
      have E0 := E.put (S := fun _ => False) (s := .non) (o := σ[v]?.join) hv2 trivial (fun _ _ _ z => z) (fun _ z => z.elim)
      have hol : ∀ j, j ∉ vs → (σ'.set v σ[v]?.join)[j]? = σ[j]? := fun j hj => by
        by_cases e : j = v
        · subst e
          have hl3 : j < σ.length := by rw [E1.len]; exact hvl
          rw [List.getElem?_set_self hv4, List.getElem?_eq_getElem hl3]; rfl
        · rw [List.set_get_ne e]; exact ho j (by rw [List.mem_cons, not_or]; exact ⟨e, hj⟩)
      obtain ⟨F2, σ2, E2, s2, l2, o2⟩ := EnvR.rest E1 x vs hi'.2 (ρ := ρ.set v .non) (σ' := σ'.set v σ[v]?.join) (by rw [List.length_set]; exact hl) hol E0
      have hv3 : v < (restE ρ1 vs (ρ.set v .non)).length := by rw [← E2.len, l2, E1.len]; exact hvl
      have E3 := E2.put (S := fun _ => False) (s := ρ1.getD v .non) (o := σ[v]?.join) hv3 hs (fun _ _ _ z => z) (fun _ z => z.elim)
      have er : (restE ρ1 vs (ρ.set v .non)).set v (ρ1.getD v .non) = restE ρ1 (v :: vs) ρ := by
        have aux : ∀ (us : List Nat), v ∉ us → ∀ r : Env, (restE ρ1 us (r.set v .non)).set v (ρ1.getD v .non) = (restE ρ1 us r).set v (ρ1.getD v .non) := by
          intro us
          induction us with
          | nil => intro _ r; simp [restE]
          | cons u us ih =>
            intro hu r
            rw [List.mem_cons, not_or] at hu
            unfold restE
            rw [List.set_comm _ _ (Ne.symm hu.1), ih hu.2, List.set_comm _ _ hu.1]
        exact aux vs hmem ρ
      rw [er] at E3
      refine ⟨_, _, E3, fun a z => (PF.Un.put (s2 a ((PF.Un.put z).elim id False.elim))).elim id False.elim, by rw [List.length_set, l2], fun j => ?_⟩
      by_cases e : j = v
      · subst e
        have hl3 : j < σ.length := by rw [E1.len]; exact hvl
        rw [List.getElem?_set_self (by rw [l2]; exact hl3), List.getElem?_eq_getElem hl3]; rfl
      · rw [List.set_get_ne e, o2]
theorem Frm.lay {U : FS} {H : Hp} {a : Addr} {o : HO} (h : H a = none) : Frm U (fun b => U b ∨ b = a) H (upd H a o) where
  keep := fun b o' _ e => by rw [upd_ne (ne_of_none e h)]; exact e
  ext := ⟨fun b xs q => by rw [upd_ne (ne_of_none q h)]; exact q, fun b o u q => by rw [upd_ne (ne_of_none q h)]; exact q⟩
  dom := fun b q => by
    by_cases z : b = a
    · rw [z, upd_same]; exact fun z => nomatch z
    · rw [upd_ne z]; exact q
  sub := fun b q => q.imp id fun e => by rw [e]; exact h
theorem sd_lc {wi : TI} {g : TG} {tt : TT} {te : TE} {si : SI} {t : Tg} {c : ST} {e : SE} (hi : SdI K mg W wi si) (hg : SdG K g t) (hc : SdT K mg (fun _ _ _ _ => False) tt c) (he : SdE K mg (fun _ _ _ _ => False) te e) : SdE K mg W (tLc wi g tt te (tgS t)) (eLc si t c e) := by
  intro P σ H F ρ Q E h
  refine hi P σ H F ρ _ E ?_
  unfold eLc at h
  cases ea : si ρ with
  | fail => rw [ea] at h; exact h
  | exc x ρ1 => rw [ea] at h; exact h
  | ok l ρ1 =>
    rw [ea, Out.bind_ok] at h
    intro J H1 F1 S1 E1 Y dj1 f1
    split at h
    · rename_i him
      have h := h.from f1
      cases eo : lcL t c e l [] (wipeE ρ1 (tgS t)) with
      | fail => rw [eo] at h; exact h.elim
      | exc x ρ2 => rw [eo] at h; exact h.elim
      | ok accF ρF =>
        rw [eo] at h
        intro Dl hD
        obtain ⟨F0, E0, s0⟩ := E1.wipe (tgS t)
        have lay : Frm (PF.Un F1) (fun b => PF.Un F1 b ∨ b = Dl) H1 (upd H1 Dl (.lst [])) := Frm.lay hD
        have nD : ∀ i, ¬ F0 i Dl := fun i z => E0.dom i Dl z hD
        refine ⟨fun i m H' => m = l.length - i ∧ i ≤ l.length ∧ ∃ F' ρ' acc vs, EnvR K P H' F' ρ' (L2.wipe σ (tgS t)) ∧ H' Dl = some (.lst vs) ∧ RIs K H' acc vs ∧ (∀ i, ¬ F' i Dl) ∧ Frm (PF.Un F1) (fun b => PF.Un F' b ∨ b = Dl) H1 H' ∧ lcL t c e (l.drop i) acc ρ' = .ok accF ρF,
          ⟨_, rfl, Nat.zero_le _, F0, _, [], [], E0.keep (fun b o _ q => by rw [upd_ne (ne_of_none q hD)]; exact q) lay.ext lay.dom, upd_same, rfl, nD, lay.less fun b z => z.imp (s0 b) id, by rw [List.drop_zero]; exact eo⟩, ?_⟩
        rintro i m H' ⟨rfl, hil, F', ρ', acc, vs, E', hDl, rs, nD', f', el⟩
        by_cases hlt : i < l.length
        · refine .inr ⟨(Y H' f'.ext i).1 hlt, fun H2 => ∃ m', m' < l.length - i ∧ (m' = l.length - (i + 1) ∧ i + 1 ≤ l.length ∧ ∃ F' ρ' acc vs, EnvR K P H2 F' ρ' (L2.wipe σ (tgS t)) ∧ H2 Dl = some (.lst vs) ∧ RIs K H2 acc vs ∧ (∀ i, ¬ F' i Dl) ∧ Frm (PF.Un F1) (fun b => PF.Un F' b ∨ b = Dl) H1 H2 ∧ lcL t c e (l.drop (i + 1)) acc ρ' = .ok accF ρF), fun _ z => z, fun x H2 y => ?_⟩
          obtain ⟨d, hd, r, gr⟩ := (Y H' f'.ext i).2.2 x H2 hlt y
          have ed : l.drop i = d :: l.drop (i + 1) := by
            have e := List.drop_eq_getElem_cons hlt
            rw [List.getElem?_eq_getElem hlt] at hd
            cases hd
            exact e
          rw [ed] at el
          unfold lcL at el
          cases es : setT t d ρ' with
          | none => rw [es] at el; cases el
          | some ρ2 =>
            rw [es] at el
            dsimp only at el
            have E2 := E'.grow gr
            have f2 : Frm (PF.Un F1) (fun b => PF.Un F' b ∨ b = Dl) H1 H2 := f'.trans ((Frm.of_grow (S := fun _ => False) (U := fun b => PF.Un F' b ∨ b = Dl) gr).less fun b z => .inl z)
            refine hg P _ H2 F' ρ' d x ρ2 _ E2 r es fun σ3 F3 E3 sub o3 => ⟨(wipe_only o3).trans wipe_wipe, ?_⟩
            refine hc P σ3 H2 F3 ρ2 _ E3 ?_
            have hw3 : L2.wipe σ3 (tgS t) = L2.wipe σ (tgS t) := (wipe_only o3).trans wipe_wipe
            cases ec : c ρ2 with
            | fail => rw [ec] at el; cases el
            | exc x ρ4 => rw [ec] at el; cases el
            | ok k ρ4 =>
              rw [ec, Out.bind_ok] at el
              intro k' H4 F4 S4 E4 R4 dj4 f4
              cases R4
              have nD3 : ¬ PF.Un F3 Dl := fun z => by obtain ⟨j, z⟩ := sub _ z; exact nD' j z
              have hD4 : H4 Dl = some (.lst vs) := f4.keep _ _ nD3 (gr.keep _ _ hDl)
              have nD4 : ∀ i, ¬ F4 i Dl := fun i z => by
                rcases f4.sub Dl (.inl ⟨i, z⟩) with q | q
                · exact nD3 q
                · rw [gr.keep _ _ hDl] at q; cases q
              have f4' : Frm (PF.Un F1) (fun b => PF.Un F4 b ∨ b = Dl) H1 H4 := by
                have w : Frm (fun b => PF.Un F' b ∨ b = Dl) (fun b => PF.Un F4 b ∨ b = Dl) H2 H4 :=
                  ⟨fun b o n q => f4.keep b o (fun z => n (.inl (sub b z))) q, f4.ext, f4.dom, fun b z => z.elim (fun z => (f4.sub b (.inl z)).imp (fun z => .inl (sub b z)) id) fun z => .inl (.inr z)⟩
                exact f2.trans w
              have rs4 : RIs K H4 acc vs := (rs.mono gr.ext).mono f4.ext
              cases k with
              | false =>
                refine iteF ?_
                rw [if_neg Bool.false_ne_true] at el
                obtain ⟨F5, E5, s5⟩ := E4.wipe (tgS t)
                rw [hw3] at E5
                exact ⟨_, by omega, rfl, hlt, F5, _, acc, vs, E5, hD4, rs4, fun i z => by obtain ⟨j, z⟩ := s5 _ ⟨i, z⟩; exact nD4 j z, f4'.less fun b z => z.imp (s5 b) id, el⟩
              | true =>
                refine iteT ?_
                rw [if_pos rfl] at el
                refine he P σ3 H4 F4 ρ4 _ E4 ?_
                cases ee : e ρ4 with
                | fail => rw [ee] at el; cases el
                | exc x ρ5 => rw [ee] at el; cases el
                | ok v ρ5 =>
                  rw [ee, Out.bind_ok] at el
                  intro u H5 F5 S5 E5 R5 dj5 f5
                  cases v with
                  | own d => cases el
                  | ref j => cases el
                  | imm d' =>
                    dsimp only at el
                    split at el
                    · rename_i hac
                      have nD5' : ¬ PF.Un F4 Dl := fun z => by obtain ⟨j, z⟩ := z; exact nD4 j z
                      have hD5 : H5 Dl = some (.lst vs) := f5.keep _ _ nD5' hD4
                      have nD5 : ∀ i, ¬ F5 i Dl := fun i z => by
                        rcases f5.sub Dl (.inl ⟨i, z⟩) with q | q
                        · exact nD5' q
                        · rw [hD4] at q; cases q
                      obtain ⟨F6, E6, s6⟩ := E5.wipe (tgS t)
                      rw [hw3] at E6
                      have nD6 : ∀ i, ¬ F6 i Dl := fun i z => by obtain ⟨j, z⟩ := s6 _ ⟨i, z⟩; exact nD5 j z
                      have n1 : ∀ b xs, H5 b = some (.tup xs) → b ≠ Dl := fun b xs q z => by rw [z, hD5] at q; cases q
                      have n2 : ∀ b o u, H5 b = some (.frz o u) → b ≠ Dl := fun b o u q z => by rw [z, hD5] at q; cases q
                      have f6 : Frm (fun b => PF.Un F5 b ∨ b = Dl) (fun b => PF.Un F5 b ∨ b = Dl) H5 (upd H5 Dl (.lst (vs ++ [u]))) := Frm.upd1 (.inr rfl) (by rw [hD5]; exact fun z => nomatch z) n1 n2
                      have f5' : Frm (PF.Un F1) (fun b => PF.Un F5 b ∨ b = Dl) H1 H5 := by
                        have w : Frm (fun b => PF.Un F4 b ∨ b = Dl) (fun b => PF.Un F5 b ∨ b = Dl) H4 H5 :=
                          ⟨fun b o n q => f5.keep b o (fun z => n (.inl z)) q, f5.ext, f5.dom, fun b z => z.elim (fun z => (f5.sub b (.inl z)).imp .inl id) fun z => .inl (.inr z)⟩
                        exact f4'.trans w
                      have hlen : vs.length < sizeLine := by
                        rw [rs4.length]
                        exact Nat.lt_of_lt_of_le hac (big_line (Nat.le_refl _))
                      refine ⟨vs, hD5, hlen, _, by omega, rfl, hlt, F6, _, acc ++ [d'], vs ++ [u], E6.keep (fun b o hb q => ?_) f6.ext f6.dom, upd_same, ?_, nD6, (f5'.trans f6).less fun b z => z.imp (s6 b) id, el⟩
                      · have hne : b ≠ Dl := fun z => by obtain ⟨j, hb⟩ := hb; exact nD6 j (by rw [← z]; exact hb)
                        rw [upd_ne hne]; exact q
                      · exact ((rs4.mono f5.ext).mono f6.ext).app ⟨u, [], rfl, RI.mono f6.ext R5, rfl⟩
                    · cases el
        · have e0 : i = l.length := by omega
          subst e0
          rw [List.drop_length] at el
          have el' : Out.ok acc ρ' = .ok accF ρF := el
          cases el'
          refine .inl ⟨(Y H' f'.ext _).2.1 (Nat.le_refl _), ?_⟩
          obtain ⟨F2, σ2, E2, s2, l2, o2⟩ := EnvR.rest E1 f'.ext (tgS t) him (σ' := L2.wipe σ (tgS t)) (wipe_length _ _) (fun j hj => by rw [wipe_get, if_neg hj]) E'
          have e2 : σ2 = σ := List.ext_getElem? o2
          subst e2
          refine h (.ref Dl) H' F2 (fun a => a = Dl) E2 ⟨⟨Dl, vs, rfl, rfl, hDl, rs⟩, fun a z => by rw [z, hDl]; exact fun z => nomatch z⟩ (fun i a z e => ?_) (f'.less fun b z => z.imp (s2 b) id)
          obtain ⟨j, q⟩ := s2 a ⟨i, z⟩
          rw [e] at q
          exact nD' j q
    · exact h.elim
/-- the context of a comprehension's block -/
theorem Ctx.blk {k : Nat} (C : Ctx X W k) (s : Shared) (H : Hp) (scope : Scope) (cenv : PySem.Env) (fp : List Addr) : Ctx (X.blk s H scope cenv fp) (fun _ _ _ _ => False) k := ⟨takes0, PassesOwn.never, C.calm, C.nd, C.room⟩
def PTsd (X : Cx) (W : WX) (ifs : List Expr) (se : ST) : Prop := ∃ te, PTs X ifs te ∧ SdT X.K X.mg W te se
theorem ptsd_nil : PTsd X W [] stYes := ⟨_, pts_nil, fun P σ H F ρ Q E h => PostO.doneB E h⟩
theorem ptsd_one {c : Expr} {s : ST} (h : PTd X W c s) : PTsd X W [c] s := by
  obtain ⟨te, h1, h2⟩ := h
  exact ⟨_, pts_one h1, h2⟩
/-- the same readings in every block -/
def TEof (K : PySem.W.Frag) (mg : Str → Option Value) (W : WX) (se : SE) : TE := fun σ H Q => ∃ P F ρ, EnvR K P H F ρ σ ∧ PostO K mg P W σ (VlR K σ) Q F H (se ρ)
def TTof (K : PySem.W.Frag) (mg : Str → Option Value) (W : WX) (se : ST) : TT := fun σ H Q => ∃ P F ρ, EnvR K P H F ρ σ ∧ PostO K mg P W σ (fun _ _ a b => a = b) Q F H (se ρ)
def TGof (K : PySem.W.Frag) (t : Tg) : TG := fun v σ H Q => ∃ P F ρ d ρ', EnvR K P H F ρ σ ∧ RI K H d v ∧ setT t d ρ = some ρ' ∧ ∀ σ' F', EnvR K P H F' ρ' σ' → (∀ a, PF.Un F' a → PF.Un F a) → Only (tgS t) σ σ' → Q σ' H
theorem PEd.canon {e : Expr} {se : SE} (h : PEd X W e se) : PE X e (TEof X.K X.mg W se) := by
  obtain ⟨te, h1, h2⟩ := h
  exact ⟨fun pins s σ H Q I ⟨P, F, ρ, E, q⟩ => h1.run pins s σ H Q I (h2 P σ H F ρ Q E q)⟩
theorem PTsd.canon {e : List Expr} {se : ST} (h : PTsd X W e se) : PTs X e (TTof X.K X.mg W se) := by
  obtain ⟨te, h1, h2⟩ := h
  exact ⟨fun pins s σ H Q I ⟨P, F, ρ, E, q⟩ => h1.run pins s σ H Q I (h2 P σ H F ρ Q E q)⟩
theorem PGd.canon {e : Expr} {t : Tg} (h : PGd X e t) : PG X e (TGof X.K t) := by
  obtain ⟨te, h1, h2⟩ := h
  exact ⟨fun pins s σ H v u Q I r ⟨P, F, ρ, d, ρ', E, rd, es, q⟩ => h1.run pins s σ H v u Q I r (h2 P σ H F ρ d v ρ' Q E rd es q)⟩
theorem sd_canonE {se : SE} : SdE K mg W (TEof K mg W se) se := fun P σ H F ρ Q E h => ⟨P, F, ρ, E, h⟩
theorem sd_canonT {se : ST} : SdT K mg W (TTof K mg W se) se := fun P σ H F ρ Q E h => ⟨P, F, ρ, E, h⟩
theorem sd_canonG {t : Tg} : SdG K (TGof K t) t := fun P σ H F ρ d v ρ' Q E r es q => ⟨P, F, ρ, d, ρ', E, r, es, q⟩
theorem pd_lc {k : Nat} {elt tg iter : Expr} {ifs : List Expr} {scope : Scope} {pos : Pos} {si : SI} {t : Tg} {c : ST} {e : SE} (C : Ctx X W k) (own : List (Str × Nat)) (hown : own.map (·.2) = tgS t) (hi : PId X W tg iter si) (ok : BlkOk X.N X.env.scope scope own)
    (h : ∀ (s : Shared) (H : Hp) (D : Addr) (cl : List (Str × Addr)) (fp : List Addr), Ctx (X.blk s H scope (compEnvC scope cl D X.env) fp) (fun _ _ _ _ => False) k →
      PGd (X.blk s H scope (compEnvC scope cl D X.env) fp) tg t ∧ PTsd (X.blk s H scope (compEnvC scope cl D X.env) fp) (fun _ _ _ _ => False) ifs c ∧ PEd (X.blk s H scope (compEnvC scope cl D X.env) fp) (fun _ _ _ _ => False) elt e)
    (hs : ∀ x, foldedSetIterable iter X.env x = pure x := by intro _; rfl) : PEd X W (.ListComp elt [⟨tg, iter, ifs, 0⟩] scope pos) (eLc si t c e) := by
  obtain ⟨wi, i1, i2⟩ := hi
  have r := pe_lc (g := TGof X.K t) (tt := TTof X.K X.mg (fun _ _ _ _ => False) c) (te := TEof X.K X.mg (fun _ _ _ _ => False) e) (pos := pos) C.calm C.nd i1 ok (fun s H D cl fp => (h s H D cl fp (C.blk s H scope _ fp)).1.canon) (fun s H D cl fp => (h s H D cl fp (C.blk s H scope _ fp)).2.1.canon) (fun s H D cl fp => (h s H D cl fp (C.blk s H scope _ fp)).2.2.canon) hs
  rw [hown] at r
  exact ⟨_, r, sd_lc i2 sd_canonG sd_canonT sd_canonE⟩
theorem psd_setLc {k : Nat} (i : Nat) {y : Str} {py : Pos} {elt tg iter : Expr} {ifs : List Expr} {scope : Scope} {pos spos : Pos} {si : SI} {t : Tg} {c : ST} {e : SE} (C : Ctx X W k) (own : List (Str × Nat)) (hown : own.map (·.2) = tgS t) (hi : PId X W tg iter si) (ok : BlkOk X.N X.env.scope scope own)
    (h : ∀ (s : Shared) (H : Hp) (D : Addr) (cl : List (Str × Addr)) (fp : List Addr), Ctx (X.blk s H scope (compEnvC scope cl D X.env) fp) (fun _ _ _ _ => False) k →
      PGd (X.blk s H scope (compEnvC scope cl D X.env) fp) tg t ∧ PTsd (X.blk s H scope (compEnvC scope cl D X.env) fp) (fun _ _ _ _ => False) ifs c ∧ PEd (X.blk s H scope (compEnvC scope cl D X.env) fp) (fun _ _ _ _ => False) elt e)
    (hsw : swapsWith (.ListComp elt [⟨tg, iter, ifs, 0⟩] scope pos) (some (.Name y py)) spos.line X.env = pure true) (hy : X.N[i]? = some y := by rfl) (hyl : X.env.scope.names.lookup y = some .local := by rfl) (hs : ∀ x, foldedSetIterable iter X.env x = pure x := by intro _; rfl) :
    PSd X W (.Assign [.Name y py] (.ListComp elt [⟨tg, iter, ifs, 0⟩] scope pos) spos) (sSet i (eLc si t c e)) := by
  obtain ⟨wi, i1, i2⟩ := hi
  have r := ps_setLc (g := TGof X.K t) (tt := TTof X.K X.mg (fun _ _ _ _ => False) c) (te := TEof X.K X.mg (fun _ _ _ _ => False) e) (i := i) (pos := pos) (spos := spos) C.calm C.nd hy hyl hsw i1 ok (fun s H D cl fp => (h s H D cl fp (C.blk s H scope _ fp)).1.canon) (fun s H D cl fp => (h s H D cl fp (C.blk s H scope _ fp)).2.1.canon) (fun s H D cl fp => (h s H D cl fp (C.blk s H scope _ fp)).2.2.canon) hs
  rw [hown] at r
  exact ⟨_, r, sd_set i (sd_lc i2 sd_canonG sd_canonT sd_canonE)⟩
end
end PF

/-! what operators, built-ins and methods make of what is read -/
namespace PF
open PySem PySem.Spec PyProof.Rows
open L2
section
variable {X : Cx} {W : WX} {K : PySem.W.Frag} {mg : Str → Option Value}
/-! ### numbers -/
def mulD : D → D → Option Vl
  | .int i, .int j => if (decide (-(2 ^ 64) < i) && decide (i < 2 ^ 64)) || (decide (-(2 ^ 64) < j) && decide (j < 2 ^ 64)) then some (.imm (.int (i * j))) else none
  | _, _ => none
theorem op_mulD : ∃ r, OpR X (binaryOp .Mult) r ∧ OpD X.K r mulD := by
  refine ⟨_, op_mul, fun H x y u w v Q rx ry e q => ?_⟩
  unfold mulD at e
  split at e
  · split at e
    · rename_i h
      rw [Bool.or_eq_true, Bool.and_eq_true, Bool.and_eq_true, decide_eq_true_eq, decide_eq_true_eq, decide_eq_true_eq, decide_eq_true_eq] at h
      cases e; cases rx; cases ry
      exact ⟨_, _, rfl, rfl, h, q.imm rfl⟩
    · cases e
  · cases e
def modD : D → D → Option Vl
  | .int i, .int j => if 0 < j then some (.imm (.int (i % j))) else none
  | _, _ => none
theorem op_modD : ∃ r, OpR X (binaryOp .Mod) r ∧ OpD X.K r modD := by
  refine ⟨_, op_mod, fun H x y u w v Q rx ry e q => ?_⟩
  unfold modD at e
  split at e
  · split at e
    · rename_i h
      cases e; cases rx; cases ry
      exact ⟨_, _, rfl, rfl, h, q.imm rfl⟩
    · cases e
  · cases e
def fdivD : D → D → Option Vl
  | .int i, .int j => if decide (0 < j) && decide (j < 2 ^ 8000) then some (.imm (.int (i / j))) else none
  | _, _ => none
theorem op_fdivD : ∃ r, OpR X (binaryOp .FloorDiv) r ∧ OpD X.K r fdivD := by
  refine ⟨_, op_fdivW, fun H x y u w v Q rx ry e q => ?_⟩
  unfold fdivD at e
  split at e
  · rename_i i j
    split at e
    · rename_i h
      rw [Bool.and_eq_true, decide_eq_true_eq, decide_eq_true_eq] at h
      cases e; cases rx; cases ry
      refine ⟨_, _, rfl, rfl, wide_div (b := 8000) h.1 ?_ (by decide) (by decide), q.imm rfl⟩
      have h2 : (j.natAbs : Int) < ((2 ^ 8000 : Nat) : Int) := by
        rw [Int.natAbs_of_nonneg (Int.le_of_lt h.1)]
        have : ((2 ^ 8000 : Nat) : Int) = 2 ^ 8000 := by norm_cast
        rw [this]; exact h.2
      exact Int.ofNat_lt.mp h2
    · cases e
  · cases e
def powD : D → D → Option Vl
  | .int i, .int j => if decide (0 ≤ j) && (decide (j ≤ 1000000) && decide (i.natAbs < 2 ^ 64)) then some (.imm (.int (i ^ j.toNat))) else none
  | _, _ => none
theorem op_powD : ∃ r, OpR X (binaryOp .Pow) r ∧ OpD X.K r powD := by
  refine ⟨_, op_pow, fun H x y u w v Q rx ry e q => ?_⟩
  unfold powD at e
  split at e
  · split at e
    · rename_i h
      rw [Bool.and_eq_true, Bool.and_eq_true, decide_eq_true_eq, decide_eq_true_eq, decide_eq_true_eq] at h
      cases e; cases rx; cases ry
      exact ⟨_, _, rfl, rfl, h, q.imm rfl⟩
    · cases e
  · cases e
/-! ### comparisons -/
def ltD : D → D → Option Vl
  | .int i, .int j => some (.imm (.bl (decide (i < j))))
  | .str s, .str t => some (.imm (.bl (decide (s < t))))
  | _, _ => none
def gtD : D → D → Option Vl
  | .int i, .int j => some (.imm (.bl (decide (j < i))))
  | .str s, .str t => some (.imm (.bl (decide (t < s))))
  | _, _ => none
def leD : D → D → Option Vl
  | .int i, .int j => some (.imm (.bl (decide (i ≤ j))))
  | _, _ => none
def geD : D → D → Option Vl
  | .int i, .int j => some (.imm (.bl (decide (j ≤ i))))
  | _, _ => none
theorem mkS_list (s : List Nat) : (mkS s).cps.toList = s := by simp [mkS]
theorem op_ltD : ∃ r, OpR X (compareOp .Lt) r ∧ OpD X.K r ltD := by
  refine ⟨_, PF.OpR.or op_lt op_lt_str, fun H x y u w v Q rx ry e q => ?_⟩
  unfold ltD at e
  split at e
  · cases e; cases rx; cases ry
    exact .inl ⟨_, _, rfl, rfl, q.imm rfl⟩
  · cases e; cases rx; cases ry
    refine .inr ⟨_, _, rfl, rfl, ?_⟩
    rw [mkS_list, mkS_list]
    exact q.imm rfl
  · cases e
theorem op_gtD : ∃ r, OpR X (compareOp .Gt) r ∧ OpD X.K r gtD := by
  refine ⟨_, PF.OpR.or op_gt op_gt_str, fun H x y u w v Q rx ry e q => ?_⟩
  unfold gtD at e
  split at e
  · cases e; cases rx; cases ry
    exact .inl ⟨_, _, rfl, rfl, q.imm rfl⟩
  · cases e; cases rx; cases ry
    refine .inr ⟨_, _, rfl, rfl, ?_⟩
    rw [mkS_list, mkS_list]
    exact q.imm rfl
  · cases e
theorem op_leD : ∃ r, OpR X (compareOp .LtE) r ∧ OpD X.K r leD := by
  refine ⟨_, op_le, fun H x y u w v Q rx ry e q => ?_⟩
  unfold leD at e
  split at e
  · cases e; cases rx; cases ry
    exact ⟨_, _, rfl, rfl, q.imm rfl⟩
  · cases e
theorem op_geD : ∃ r, OpR X (compareOp .GtE) r ∧ OpD X.K r geD := by
  refine ⟨_, op_ge, fun H x y u w v Q rx ry e q => ?_⟩
  unfold geD at e
  split at e
  · cases e; cases rx; cases ry
    exact ⟨_, _, rfl, rfl, q.imm rfl⟩
  · cases e
end

/-! ### == -/
mutual
def eqP : D → D → Bool
  | .non, .non => true
  | .bl a, .bl b => a == b
  | .bl a, .int j => (if a then 1 else 0) == j
  | .int i, .bl b => i == (if b then 1 else 0)
  | .int i, .int j => i == j
  | .str x, .str y => x == y
  | .lst xs, .lst ys => eqPs xs ys
  | .tup xs, .tup ys => eqPs xs ys
  | _, _ => false
def eqPs : List D → List D → Bool
  | [], [] => true
  | x :: xs, y :: ys => eqP x y && eqPs xs ys
  | _, _ => false
end
mutual
/-- plain data, no more than so deep -/
def okP : Nat → D → Bool
  | n, .non => true
  | n, .bl _ => true
  | n, .int _ => true
  | n, .str _ => true
  | n, .lst l => match n with
    | 0 => false
    | m + 1 => okPs m l
  | n, .tup l => match n with
    | 0 => false
    | m + 1 => okPs m l
  | _, _ => false
def okPs : Nat → List D → Bool
  | _, [] => true
  | n, d :: l => okP n d && okPs n l
end
mutual
theorem eqP_refl : ∀ {n : Nat} (d : D), okP n d = true → eqP d d = true
  | _, .non, _ => rfl
  | _, .bl b, _ => by simp [eqP]
  | _, .int i, _ => by simp [eqP]
  | _, .str x, _ => by simp [eqP]
  | n, .lst l, h => by
    cases n with
    | zero => simp [okP] at h
    | succ n => rw [eqP]; exact eqPs_refl l (by simpa [okP] using h)
  | n, .tup l, h => by
    cases n with
    | zero => simp [okP] at h
    | succ n => rw [eqP]; exact eqPs_refl l (by simpa [okP] using h)
  | n, .dct _, h => by simp [okP] at h
  | n, .dcT _, h => by simp [okP] at h
  | n, .deal _ _ _, h => by simp [okP] at h
theorem eqPs_refl : ∀ {n : Nat} (l : List D), okPs n l = true → eqPs l l = true
  | _, [], _ => rfl
  | n, d :: l, h => by
    have h' : okP n d = true ∧ okPs n l = true := by simpa [okPs] using h
    rw [eqPs, eqP_refl d h'.1, eqPs_refl l h'.2]; rfl
end
abbrev pairP (l m : List D) (j : Nat) : Bool := eqP (l.getD j .non) (m.getD j .non)
theorem eqPs_eq : ∀ l m : List D, ((List.range (min l.length m.length)).all (pairP l m) && l.length == m.length) = eqPs l m
  | [], [] => rfl
  | [], _ :: _ => by simp [eqPs]
  | _ :: _, [] => by simp [eqPs]
  | x :: xs, y :: ys => by
    have ih := eqPs_eq xs ys
    have e1 : min (x :: xs).length (y :: ys).length = min xs.length ys.length + 1 := by rw [List.length_cons, List.length_cons]; omega
    have e2 : ((x :: xs).length == (y :: ys).length) = (xs.length == ys.length) := by simp
    have e3 : (List.range (min xs.length ys.length + 1)).all (pairP (x :: xs) (y :: ys)) = (eqP x y && (List.range (min xs.length ys.length)).all (pairP xs ys)) := by
      rw [List.range_succ_eq_map, List.all_cons, List.all_map]
      first | rfl | simp [pairP, Function.comp_def]
    rw [e1, e2, e3, eqPs, ← ih, Bool.and_assoc]
section
variable {X : Cx} {pins : List (Addr × Obj)} {σ : L2.St} {H : Hp} {s : Shared}
theorem uniq_l {n : Nat} (ih : ∀ (d e : D) (v : V), okP n d = true → okP n e = true → RI X.K H d v → RI X.K H e v → d = e) : ∀ (l k : List D) (vs : List V), okPs n l = true → okPs n k = true → RIs X.K H l vs → RIs X.K H k vs → l = k := by
  intro l
  induction l with
  | nil =>
    intro k vs _ _ h1 h2
    cases h1
    cases k with
    | nil => rfl
    | cons d k => obtain ⟨_, _, q, _⟩ := h2; cases q
  | cons d l il =>
    intro k vs hd he h1 h2
    obtain ⟨v, r, e1, q1, r1⟩ := h1
    subst e1
    cases k with
    | nil => cases h2
    | cons e k =>
      obtain ⟨w, r2, e2, q2, r2'⟩ := h2
      cases e2
      have hd' : okP n d = true ∧ okPs n l = true := by simpa [okPs] using hd
      have he' : okP n e = true ∧ okPs n k = true := by simpa [okPs] using he
      rw [ih d e v hd'.1 he'.1 q1 q2, il k r hd'.2 he'.2 r1 r2']
/-- the kinds of plain data -/
inductive PK (n : Nat) (K : PySem.W.Frag) (H : Hp) : D → V → Prop
  | non : PK n K H .non .non
  | bl (b : Bool) : PK n K H (.bl b) (.bl b)
  | int (i : Int) : PK n K H (.int i) (.int i)
  | str (x : List Nat) : PK n K H (.str x) (.str (mkS x))
  | lst (m : Nat) (a : Addr) (l : List D) (vs : List V) (e : n = m + 1) (o : okPs m l = true) (h : SqL K H a vs) (r : RIs K H l vs) : PK n K H (.lst l) (.ref a)
  | tup (m : Nat) (a : Addr) (l : List D) (vs : List V) (e : n = m + 1) (o : okPs m l = true) (h : SqT K H a vs) (r : RIs K H l vs) : PK n K H (.tup l) (.ref a)
theorem pk_of {n : Nat} {K : PySem.W.Frag} {d : D} {v : V} (h : okP n d = true) (r : RdR K H d v) : PK n K H d v := by
  cases d with
  | non => cases r; exact .non
  | bl b => cases r; exact .bl b
  | int i => cases r; exact .int i
  | str x => cases r; exact .str x
  | lst l =>
    obtain ⟨a, vs, e, q, rs⟩ := r
    subst e
    cases n with
    | zero => simp [okP] at h
    | succ n => exact .lst n a l vs rfl (by simpa [okP] using h) q rs
  | tup l =>
    obtain ⟨a, vs, e, q, rs⟩ := r
    subst e
    cases n with
    | zero => simp [okP] at h
    | succ n => exact .tup n a l vs rfl (by simpa [okP] using h) (SqT.of q) rs
  | dct l => simp [okP] at h
  | dcT l => simp [okP] at h
  | deal _ _ _ => simp [okP] at h
theorem not_both (I : Inv X pins σ H s) {a : Addr} {xs ys : List V} (h1 : SqL X.K H a xs) (h2 : SqT X.K H a ys) : False := by
  obtain ⟨_, _, ⟨o, _, g1, g2, _, _⟩, _⟩ := I.list h1
  obtain ⟨_, _, ⟨o2, g3, g4, _⟩, _⟩ := I.tuple h2
  rw [g1] at g3; cases g3
  rw [g2] at g4; simp at g4
theorem rd_uniq (I : Inv X pins σ H s) : ∀ (n : Nat) (d e : D) (v : V), okP n d = true → okP n e = true → RdR X.K H d v → RdR X.K H e v → d = e := by
  intro n
  induction n with
  | zero =>
    intro d e v hd he h1 h2
    have p1 := pk_of hd h1
    have p2 := pk_of he h2
    cases p1 with
    | str x => generalize ex : V.str (mkS x) = y at p2; cases p2 with
      | str z => injection ex with e1; rw [mkS_inj e1]
      | _ => cases ex
    | lst _ _ _ _ e => cases e
    | tup _ _ _ _ e => cases e
    | _ => cases p2 <;> rfl
  | succ n ih =>
    intro d e v hd he h1 h2
    have p1 := pk_of hd h1
    have p2 := pk_of he h2
    cases p1 with
    | str x => generalize ex : V.str (mkS x) = y at p2; cases p2 with
      | str z => injection ex with e1; rw [mkS_inj e1]
      | _ => cases ex
    | lst m a l vs e1 o q r =>
      cases e1
      cases p2 with
      | lst m2 _ l2 vs2 e2 o2 q2 r2 =>
        cases e2
        have ev := I.list_inj q q2
        subst ev
        rw [uniq_l (fun d e v a b c f => ih d e v a b c.rd f.rd) l l2 vs o o2 r r2]
      | tup m2 _ l2 vs2 e2 o2 q2 r2 => exact (not_both I q q2).elim
    | tup m a l vs e1 o q r =>
      cases e1
      cases p2 with
      | tup m2 _ l2 vs2 e2 o2 q2 r2 =>
        cases e2
        have ev := I.tuple_inj q q2
        subst ev
        rw [uniq_l (fun d e v a b c f => ih d e v a b c.rd f.rd) l l2 vs o o2 r r2]
      | lst m2 _ l2 vs2 e2 o2 q2 r2 => exact (not_both I q2 q).elim
    | _ => cases p2 <;> rfl
theorem okPs_get {n : Nat} : ∀ {l : List D} {j : Nat} {d : D}, okPs n l = true → l[j]? = some d → okP n d = true
  | [], _, _, _, h => by simp at h
  | e :: l, 0, d, h, q => by
    have h' : okP n e = true ∧ okPs n l = true := by simpa [okPs] using h
    simp at q; subst q; exact h'.1
  | e :: l, j + 1, d, h, q => by
    have h' : okP n e = true ∧ okPs n l = true := by simpa [okPs] using h
    exact okPs_get (l := l) (j := j) h'.2 (by simpa using q)
theorem mkS_beq (a b : List Nat) : (mkS a == mkS b) = (a == b) := by
  rw [Bool.eq_iff_iff, beq_iff_eq, beq_iff_eq]
  exact ⟨mkS_inj, fun h => by rw [h]⟩
theorem items_at {n : Nat} {A : Around} {l m : List D} {vs ws : List V} {its its2 : List Value} (rl : RIs X.K H l vs) (rm : RIs X.K H m ws) (r1 : Vals vs its) (r2 : Vals ws its2) (ol : okPs n l = true) (om : okPs n m = true)
    (ih : ∀ d e v u x y, okP n d = true → okP n e = true → RdR X.K H d v → RdR X.K H e u → RelV v x → RelV u y → SeqAt.EqAt A s x y (eqP d e)) :
    ∀ j (h1 : j < its.toArray.size) (h2 : j < its2.toArray.size), SeqAt.EqAt A s its.toArray[j] its2.toArray[j] (pairP l m j) := by
  intro j h1 h2
  have h1' : j < its.length := by simpa using h1
  have h2' : j < its2.length := by simpa using h2
  have a1 : j < l.length := by rw [← rl.length, r1.length]; exact h1'
  have a2 : j < m.length := by rw [← rm.length, r2.length]; exact h2'
  obtain ⟨v, e1, q1⟩ := rl.get (List.getElem?_eq_getElem a1)
  obtain ⟨u, e2, q2⟩ := rm.get (List.getElem?_eq_getElem a2)
  obtain ⟨x, e3, q3⟩ := r1.get e1
  obtain ⟨y, e4, q4⟩ := r2.get e2
  have f1 : its.toArray[j] = x := by
    have : its[j]? = some its[j] := List.getElem?_eq_getElem h1'
    rw [e3] at this; cases this; rfl
  have f2 : its2.toArray[j] = y := by
    have : its2[j]? = some its2[j] := List.getElem?_eq_getElem h2'
    rw [e4] at this; cases this; rfl
  have g1 : l.getD j .non = l[j] := by simp [a1]
  have g2 : m.getD j .non = m[j] := by simp [a2]
  rw [f1, f2]
  show SeqAt.EqAt A s x y (eqP (l.getD j .non) (m.getD j .non))
  rw [g1, g2]
  exact ih _ _ v u x y (okPs_get ol (List.getElem?_eq_getElem a1)) (okPs_get om (List.getElem?_eq_getElem a2)) q1.rd q2.rd q3 q4
theorem eqPs_other {l m : List D} (h : l.length ≠ m.length) : eqPs l m = false := by
  rw [← eqPs_eq]
  simp [h]
theorem eqPs_same {l m : List D} (h : l.length = m.length) : (List.range l.length).all (pairP l m) = eqPs l m := by
  have e := eqPs_eq l m
  rw [← h, Nat.min_self] at e
  simpa using e
theorem rc_cases {n : Nat} (A : Around) (hu : A.units < cLine) (I : Inv X pins σ H s) {d e : D} {v u : V} {x y : Value} (p : PK n X.K H d v) (q : PK n X.K H e u) (r : RelV v x) (t : RelV u y)
    (ih : ∀ m, n = m + 1 → ∀ d e v u x y, okP m d = true → okP m e = true → RdR X.K H d v → RdR X.K H e u → RelV v x → RelV u y → SeqAt.EqAt A.in1 s x y (eqP d e)) : SeqAt.RcAt A s x y (eqP d e) ∧ SeqAt.RcNeAt A s x y (!eqP d e) := by
  cases p with
  | non =>
    cases r
    cases q with
    | non => cases t; exact ⟨.none_none, .none_none⟩
    | bl b => cases t; exact ⟨.none_bool b, .none_bool b⟩
    | int i => obtain ⟨tk, rfl⟩ := t; exact ⟨.none_int i tk, .none_int i tk⟩
    | str z => obtain ⟨tk, rfl⟩ := t; exact ⟨.none_str _ tk, .none_str _ tk⟩
    | lst m a l vs e1 o h rs => cases t; obtain ⟨its, rv, pl, _⟩ := I.list h; exact ⟨.none_list pl.isList hu, .none_list pl.isList hu⟩
    | tup m a l vs e1 o h rs => cases t; obtain ⟨its, rv, pl, _⟩ := I.tuple h; exact ⟨.none_tuple pl hu, .none_tuple pl hu⟩
  | bl b =>
    cases r
    cases q with
    | non => cases t; exact ⟨.bool_none b, .bool_none b⟩
    | bl c => cases t; exact ⟨.bool_bool b c, .bool_bool b c⟩
    | int i => obtain ⟨tk, rfl⟩ := t; exact ⟨.bool_int b i tk, .bool_int b i tk⟩
    | str z => obtain ⟨tk, rfl⟩ := t; exact ⟨.bool_str b _ tk, .bool_str b _ tk⟩
    | lst m a l vs e1 o h rs => cases t; obtain ⟨its, rv, pl, _⟩ := I.list h; exact ⟨.bool_list b pl.isList hu, .bool_list b pl.isList hu⟩
    | tup m a l vs e1 o h rs => cases t; obtain ⟨its, rv, pl, _⟩ := I.tuple h; exact ⟨.bool_tuple b pl hu, .bool_tuple b pl hu⟩
  | int i =>
    obtain ⟨tk, rfl⟩ := r
    cases q with
    | non => cases t; exact ⟨.int_none i tk, .int_none i tk⟩
    | bl c => cases t; exact ⟨.int_bool i tk c, .int_bool i tk c⟩
    | int j => obtain ⟨tl, rfl⟩ := t; exact ⟨.int_int i tk j tl, .int_int i tk j tl⟩
    | str z => obtain ⟨tl, rfl⟩ := t; exact ⟨.int_str i tk _ tl, .int_str i tk _ tl⟩
    | lst m a l vs e1 o h rs => cases t; obtain ⟨its, rv, pl, _⟩ := I.list h; exact ⟨.int_list i tk pl.isList hu, .int_list i tk pl.isList hu⟩
    | tup m a l vs e1 o h rs => cases t; obtain ⟨its, rv, pl, _⟩ := I.tuple h; exact ⟨.int_tuple i tk pl hu, .int_tuple i tk pl hu⟩
  | str z =>
    obtain ⟨tk, rfl⟩ := r
    cases q with
    | non => cases t; exact ⟨.str_none _ tk, .str_none _ tk⟩
    | bl c => cases t; exact ⟨.str_bool _ tk c, .str_bool _ tk c⟩
    | int j => obtain ⟨tl, rfl⟩ := t; exact ⟨.str_int _ tk j tl, .str_int _ tk j tl⟩
    | str z2 => obtain ⟨tl, rfl⟩ := t; rw [show eqP (.str z) (.str z2) = (mkS z == mkS z2) by rw [mkS_beq]; rfl]; exact ⟨.str_str _ tk _ tl, .str_str _ tk _ tl⟩
    | lst m a l vs e1 o h rs => cases t; obtain ⟨its, rv, pl, _⟩ := I.list h; exact ⟨.str_list _ tk pl.isList hu, .str_list _ tk pl.isList hu⟩
    | tup m a l vs e1 o h rs => cases t; obtain ⟨its, rv, pl, _⟩ := I.tuple h; exact ⟨.str_tuple _ tk pl hu, .str_tuple _ tk pl hu⟩
  | lst m a l vs e1 o h rs =>
    cases r
    obtain ⟨its, rv, pl, _⟩ := I.list h
    cases q with
    | non => cases t; exact ⟨.list_none pl.isList hu, .list_none pl.isList hu⟩
    | bl c => cases t; exact ⟨.list_bool c pl.isList hu, .list_bool c pl.isList hu⟩
    | int j => obtain ⟨tl, rfl⟩ := t; exact ⟨.list_int j tl pl.isList hu, .list_int j tl pl.isList hu⟩
    | str z2 => obtain ⟨tl, rfl⟩ := t; exact ⟨.list_str _ tl pl.isList hu, .list_str _ tl pl.isList hu⟩
    | lst m2 a2 l2 vs2 e2 o2 h2 rs2 =>
      cases t
      obtain ⟨its2, rv2, pl2, _⟩ := I.list h2
      rw [e1] at e2
      cases e2
      have s1 : its.toArray.size = l.length := by rw [List.size_toArray, ← rv.length, rs.length]
      have s2 : its2.toArray.size = l2.length := by rw [List.size_toArray, ← rv2.length, rs2.length]
      show SeqAt.RcAt A s _ _ (eqPs l l2) ∧ SeqAt.RcNeAt A s _ _ (!eqPs l l2)
      by_cases hl : l.length = l2.length
      · have it := items_at (A := A.in1) rs rs2 rv rv2 o o2 (ih m e1)
        have e3 : (List.range its.toArray.size).all (pairP l l2) = eqPs l l2 := by rw [s1]; exact eqPs_same hl
        rw [← e3]
        exact ⟨.lists pl.isList pl2.isList (by rw [s1, s2, hl]) hu it, .lists pl.isList pl2.isList (by rw [s1, s2, hl]) hu it⟩
      · rw [eqPs_other hl]
        have hb : (its.toArray.size != its2.toArray.size) = true := by rw [s1, s2]; exact bne_iff_ne.mpr hl
        exact ⟨.lists_lengths pl.isList pl2.isList hb hu, .lists_lengths pl.isList pl2.isList hb hu⟩
    | tup m2 a2 l2 vs2 e2 o2 h2 rs2 =>
      cases t
      obtain ⟨its2, rv2, pl2, _⟩ := I.tuple h2
      exact ⟨.list_tuple pl.isList pl2 hu, .list_tuple pl.isList pl2 hu⟩
  | tup m a l vs e1 o h rs =>
    cases r
    obtain ⟨its, rv, pl, _⟩ := I.tuple h
    cases q with
    | non => cases t; exact ⟨.tuple_none pl hu, .tuple_none pl hu⟩
    | bl c => cases t; exact ⟨.tuple_bool c pl hu, .tuple_bool c pl hu⟩
    | int j => obtain ⟨tl, rfl⟩ := t; exact ⟨.tuple_int j tl pl hu, .tuple_int j tl pl hu⟩
    | str z2 => obtain ⟨tl, rfl⟩ := t; exact ⟨.tuple_str _ tl pl hu, .tuple_str _ tl pl hu⟩
    | tup m2 a2 l2 vs2 e2 o2 h2 rs2 =>
      cases t
      obtain ⟨its2, rv2, pl2, _⟩ := I.tuple h2
      rw [e1] at e2
      cases e2
      have s1 : its.toArray.size = l.length := by rw [List.size_toArray, ← rv.length, rs.length]
      have s2 : its2.toArray.size = l2.length := by rw [List.size_toArray, ← rv2.length, rs2.length]
      show SeqAt.RcAt A s _ _ (eqPs l l2) ∧ SeqAt.RcNeAt A s _ _ (!eqPs l l2)
      have it := items_at (A := A.in1) rs rs2 rv rv2 o o2 (ih m e1)
      have e3 : ((List.range (min its.toArray.size its2.toArray.size)).all (pairP l l2) && its.toArray.size == its2.toArray.size) = eqPs l l2 := by rw [s1, s2]; exact eqPs_eq l l2
      rw [← e3]
      exact ⟨.tuples pl pl2 hu it, .tuples pl pl2 hu it⟩
    | lst m2 a2 l2 vs2 e2 o2 h2 rs2 =>
      cases t
      obtain ⟨its2, rv2, pl2, _⟩ := I.list h2
      exact ⟨.tuple_list pl pl2.isList hu, .tuple_list pl pl2.isList hu⟩
theorem eq_at (I : Inv X pins σ H s) : ∀ (n : Nat) (A : Around), A.units + n < cLine → ∀ (d e : D) (v u : V) (x y : Value), okP n d = true → okP n e = true → RdR X.K H d v → RdR X.K H e u → RelV v x → RelV u y → SeqAt.EqAt A s x y (eqP d e) := by
  intro n
  induction n with
  | zero =>
    intro A hu d e v u x y hd he rd re r t
    have hu' : A.units < cLine := by omega
    cases pk_of hd rd with
    | lst _ _ _ _ q => cases q
    | tup _ _ _ _ q => cases q
    | non =>
      cases r
      cases pk_of he re with
      | non => cases t; exact .same _
      | bl b => cases t; exact .none_bool b
      | int i => obtain ⟨tk, rfl⟩ := t; exact .none_int i tk
      | str z => obtain ⟨tk, rfl⟩ := t; exact .none_str _ tk
      | lst _ _ _ _ q => cases q
      | tup _ _ _ _ q => cases q
    | bl b =>
      cases r
      cases pk_of he re with
      | non => cases t; exact .bool_none b
      | bl c => cases t; exact .bool_bool b c
      | int i => obtain ⟨tk, rfl⟩ := t; exact .bool_int b i tk
      | str z => obtain ⟨tk, rfl⟩ := t; exact .bool_str b _ tk
      | lst _ _ _ _ q => cases q
      | tup _ _ _ _ q => cases q
    | int i =>
      obtain ⟨tk, rfl⟩ := r
      cases pk_of he re with
      | non => cases t; exact .int_none i tk
      | bl c => cases t; exact .int_bool i tk c
      | int j => obtain ⟨tl, rfl⟩ := t; exact .int_int i tk j tl
      | str z => obtain ⟨tl, rfl⟩ := t; exact .int_str i tk _ tl
      | lst _ _ _ _ q => cases q
      | tup _ _ _ _ q => cases q
    | str z =>
      obtain ⟨tk, rfl⟩ := r
      cases pk_of he re with
      | non => cases t; exact .str_none _ tk
      | bl c => cases t; exact .str_bool _ tk c
      | int j => obtain ⟨tl, rfl⟩ := t; exact .str_int _ tk j tl
      | str z2 => obtain ⟨tl, rfl⟩ := t; rw [show eqP (.str z) (.str z2) = (mkS z == mkS z2) by rw [mkS_beq]; rfl]; exact .str_str _ tk _ tl
      | lst _ _ _ _ q => cases q
      | tup _ _ _ _ q => cases q
  | succ n ih =>
    intro A hu d e v u x y hd he rd re r t
    have hu' : A.units < cLine := by omega
    have p := pk_of hd rd
    have q := pk_of he re
    have rc := rc_cases A hu' I p q r t fun m em d e v u x y a b c f g h => by
      cases em
      exact ih A.in1 (by show A.units + 1 + n < cLine; omega) d e v u x y a b c f g h
    have refs : ∀ {a b : Addr}, x = .ref a → y = .ref b → SeqAt.EqAt A s x y (eqP d e) := fun {a b} ex ey => by
      by_cases hab : a = b
      · have hv : v = u := by
          subst ex ey hab
          exact r.inj t
        subst hv
        have hde := rd_uniq I (n + 1) d e v hd he rd re
        subst hde
        rw [eqP_refl d hd, ex, ey, hab]
        exact .same _
      · subst ex ey
        exact SeqAt.EqAt.of_refs hab rc.1
    cases p with
    | non =>
      cases r
      cases q with
      | non => cases t; exact .same _
      | bl b => cases t; exact .none_bool b
      | int i => obtain ⟨tk, rfl⟩ := t; exact .none_int i tk
      | str z => obtain ⟨tk, rfl⟩ := t; exact .none_str _ tk
      | lst m a l vs e1 o h rs => cases t; obtain ⟨its, rv, pl, _⟩ := I.list h; exact .none_list pl.isList hu'
      | tup m a l vs e1 o h rs => cases t; obtain ⟨its, rv, pl, _⟩ := I.tuple h; exact .none_tuple pl hu'
    | bl b =>
      cases r
      cases q with
      | non => cases t; exact .bool_none b
      | bl c => cases t; exact .bool_bool b c
      | int i => obtain ⟨tk, rfl⟩ := t; exact .bool_int b i tk
      | str z => obtain ⟨tk, rfl⟩ := t; exact .bool_str b _ tk
      | lst m a l vs e1 o h rs => cases t; obtain ⟨its, rv, pl, _⟩ := I.list h; exact .bool_list b pl.isList hu'
      | tup m a l vs e1 o h rs => cases t; obtain ⟨its, rv, pl, _⟩ := I.tuple h; exact .bool_tuple b pl hu'
    | int i =>
      obtain ⟨tk, rfl⟩ := r
      cases q with
      | non => cases t; exact .int_none i tk
      | bl c => cases t; exact .int_bool i tk c
      | int j => obtain ⟨tl, rfl⟩ := t; exact .int_int i tk j tl
      | str z => obtain ⟨tl, rfl⟩ := t; exact .int_str i tk _ tl
      | lst m a l vs e1 o h rs => cases t; obtain ⟨its, rv, pl, _⟩ := I.list h; exact .int_list i tk pl.isList hu'
      | tup m a l vs e1 o h rs => cases t; obtain ⟨its, rv, pl, _⟩ := I.tuple h; exact .int_tuple i tk pl hu'
    | str z =>
      obtain ⟨tk, rfl⟩ := r
      cases q with
      | non => cases t; exact .str_none _ tk
      | bl c => cases t; exact .str_bool _ tk c
      | int j => obtain ⟨tl, rfl⟩ := t; exact .str_int _ tk j tl
      | str z2 => obtain ⟨tl, rfl⟩ := t; rw [show eqP (.str z) (.str z2) = (mkS z == mkS z2) by rw [mkS_beq]; rfl]; exact .str_str _ tk _ tl
      | lst m a l vs e1 o h rs => cases t; obtain ⟨its, rv, pl, _⟩ := I.list h; exact .str_list _ tk pl.isList hu'
      | tup m a l vs e1 o h rs => cases t; obtain ⟨its, rv, pl, _⟩ := I.tuple h; exact .str_tuple _ tk pl hu'
    | lst m a l vs e1 o h rs =>
      cases r
      obtain ⟨its, rv, pl, _⟩ := I.list h
      cases q with
      | non => cases t; exact .list_none pl.isList hu'
      | bl c => cases t; exact .list_bool c pl.isList hu'
      | int j => obtain ⟨tl, rfl⟩ := t; exact .list_int j tl pl.isList hu'
      | str z2 => obtain ⟨tl, rfl⟩ := t; exact .list_str _ tl pl.isList hu'
      | lst m2 a2 l2 vs2 e2 o2 h2 rs2 => cases t; exact refs rfl rfl
      | tup m2 a2 l2 vs2 e2 o2 h2 rs2 => cases t; exact refs rfl rfl
    | tup m a l vs e1 o h rs =>
      cases r
      obtain ⟨its, rv, pl, _⟩ := I.tuple h
      cases q with
      | non => cases t; exact .tuple_none pl hu'
      | bl c => cases t; exact .tuple_bool c pl hu'
      | int j => obtain ⟨tl, rfl⟩ := t; exact .tuple_int j tl pl hu'
      | str z2 => obtain ⟨tl, rfl⟩ := t; exact .tuple_str _ tl pl hu'
      | lst m2 a2 l2 vs2 e2 o2 h2 rs2 => cases t; exact refs rfl rfl
      | tup m2 a2 l2 vs2 e2 o2 h2 rs2 => cases t; exact refs rfl rfl
end
/-- a == b, a != b: plain data, no more than so deep -/
def eqD : D → D → Option Vl := fun x y => if okP 180 x && okP 180 y then some (.imm (.bl (eqP x y))) else none
def neD : D → D → Option Vl := fun x y => if okP 180 x && okP 180 y then some (.imm (.bl (!eqP x y))) else none
section
variable {X : Cx}
def rEqX (K : PySem.W.Frag) (neg : Bool) : R2 := fun x y H Q => ∃ d e, RdR K H d x ∧ RdR K H e y ∧ okP 180 d = true ∧ okP 180 e = true ∧ Q (.bl (if neg then !eqP d e else eqP d e)) H
theorem op_eqX (hu : X.A.units + 184 < cLine) : OpR X (compareOp .Eq) (rEqX X.K false) := by
  intro pins s σ H x y v u Q I rx ry h
  obtain ⟨d, e, r1, r2, o1, o2, q⟩ := h
  exact (rc_cases X.A (by omega) I (pk_of o1 r1) (pk_of o2 r2) rx ry fun m em d e v u x y a b c f g h => eq_at I m X.A.in1 (by show X.A.units + 1 + m < cLine; omega) d e v u x y a b c f g h).1 _ _ _ _ ⟨.bl _, H, I, rfl, q⟩
theorem op_neX (hu : X.A.units + 184 < cLine) : OpR X (compareOp .NotEq) (rEqX X.K true) := by
  intro pins s σ H x y v u Q I rx ry h
  obtain ⟨d, e, r1, r2, o1, o2, q⟩ := h
  exact (rc_cases X.A (by omega) I (pk_of o1 r1) (pk_of o2 r2) rx ry fun m em d e v u x y a b c f g h => eq_at I m X.A.in1 (by show X.A.units + 1 + m < cLine; omega) d e v u x y a b c f g h).2 _ _ _ _ ⟨.bl _, H, I, rfl, q⟩
theorem op_eqDD (hu : X.A.units + 184 < cLine) : ∃ r, OpR X (compareOp .Eq) r ∧ OpD X.K r eqD := by
  refine ⟨_, op_eqX hu, fun H x y u w v Q rx ry e q => ?_⟩
  unfold eqD at e
  split at e
  · rename_i h
    rw [Bool.and_eq_true] at h
    cases e
    exact ⟨x, y, rx, ry, h.1, h.2, q.imm rfl⟩
  · cases e
theorem op_neDD (hu : X.A.units + 184 < cLine) : ∃ r, OpR X (compareOp .NotEq) r ∧ OpD X.K r neD := by
  refine ⟨_, op_neX hu, fun H x y u w v Q rx ry e q => ?_⟩
  unfold neD at e
  split at e
  · rename_i h
    rw [Bool.and_eq_true] at h
    cases e
    exact ⟨x, y, rx, ry, h.1, h.2, q.imm rfl⟩
  · cases e
theorem Ctx.u64 {W : WX} {k : Nat} (C : Ctx X W k) : X.A.units + 184 < cLine := by have := C.room.un; omega
end
end PF

/-! places, lengths, membership, slices, texts -/
namespace PF
open PySem PySem.Spec PyProof.Rows
open L2
section
variable {X : Cx} {W : WX} {K : PySem.W.Frag} {mg : Str → Option Value}
/-! ### joined sequences -/
theorem op_catL : OpR X (binaryOp .Add) (fun x y H Q => ∃ a b xs ys, x = .ref a ∧ y = .ref b ∧ SqL X.K H a xs ∧ SqL X.K H b ys ∧ xs.length + ys.length ≤ sizeLine ∧ ∀ p, H p = none → Q (.ref p) (upd H p (.lst (xs ++ ys)))) := by
  intro pins s σ H x y v u Q I rx ry h
  obtain ⟨a, b, xs, ys, rfl, rfl, ha, hb, hz, q⟩ := h
  cases rx
  cases ry
  obtain ⟨i1, r1, ⟨⟨c1, d1, e1, s1⟩, n1, g1, g2, g3, g4⟩, _⟩ := I.list ha
  obtain ⟨i2, r2, ⟨⟨c2, d2, e2, s2⟩, n2, k1, k2, k3, k4⟩, _⟩ := I.list hb
  simp only at g2 g3 g4 k2 k3 k4
  subst g2 g3 g4 k2 k3 k4
  have l1 := r1.length
  have l2 := r2.length
  refine concat_meets ⟨_, g1, rfl⟩ ⟨_, k1, rfl⟩ noFill_list_add seq_list_add PySem.F.slot_list_add PySem.F.entry_list_add (PySem.F.args_list_add_2 _ _) (PyProof.Rows.list_addW a b i1.toArray i2.toArray n1 n2 none none s1 s2 (by rw [List.size_toArray, List.size_toArray]; omega)) ⟨g1, k1, ?_⟩
  have ea : i1.toArray ++ i2.toArray = (i1 ++ i2).toArray := by simp
  rw [ea]
  exact ⟨.ref _, _, I.lnew (t' := s.toks) (r1.append r2) (by rw [List.length_append]; omega), rfl, q _ I.fresh⟩
def plusD : D → D → Option Vl
  | .lst l, .lst m => if l.length + m.length ≤ big then some (.own (.lst (l ++ m))) else none
  | .tup l, .tup m => if l.length + m.length ≤ big then some (.imm (.tup (l ++ m))) else none
  | x, y => addD x y
theorem op_plusD : ∃ r, OpR X (binaryOp .Add) r ∧ OpD X.K r plusD := by
  obtain ⟨r0, h1, h2⟩ := op_addD (X := X)
  refine ⟨_, PF.OpR.or (PF.OpR.or op_catL op_catA) h1, fun H x y u w v Q rx ry e q => ?_⟩
  unfold plusD at e
  split at e
  · rename_i l m
    split at e
    · rename_i hl
      cases e
      obtain ⟨a, vs, rfl, h1, r1⟩ := rx
      obtain ⟨b, ws, rfl, h2, r2⟩ := ry
      exact .inl (.inl ⟨a, b, vs, ws, rfl, rfl, h1, h2, by rw [r1.length, r2.length]; exact big_line hl, fun p hp => q.lst (r1.app r2) hp⟩)
    · cases e
  · rename_i l m
    split at e
    · rename_i hl
      cases e
      obtain ⟨a, vs, rfl, h1, r1⟩ := rx
      obtain ⟨b, ws, rfl, h2, r2⟩ := ry
      refine .inl (.inr ⟨a, b, vs, ws, rfl, rfl, SqT.of h1, SqT.of h2, by rw [r1.length, r2.length]; exact big_line hl, fun e0 => ?_, fun _ e0 => ?_, fun _ _ p hp => q.tup (r1.app r2) hp⟩)
      · subst e0
        cases l with
        | nil => exact q.imm ⟨b, ws, rfl, h2, r2⟩
        | cons d l => obtain ⟨_, _, z, _⟩ := r1; cases z
      · subst e0
        cases m with
        | nil => rw [List.append_nil] at q; exact q.imm ⟨a, vs, rfl, h1, r1⟩
        | cons d l => obtain ⟨_, _, z, _⟩ := r2; cases z
    · cases e
  · exact .inr (h2 H x y u w v Q rx ry e q)
/-- a text so many times -/
def tmsD : D → D → Option Vl
  | .str s, .int n => if decide (0 ≤ n) && decide (n ≤ 1000) && decide (s.length ≤ 1000) then some (.imm (.str (List.replicate n.toNat s).flatten)) else none
  | x, y => mulD x y

/-! ### length -/
def lenD : D → Option Vl
  | .str s => if s.length ≤ big then some (.imm (.int s.length)) else none
  | .lst l => some (.imm (.int l.length))
  | .tup l => some (.imm (.int l.length))
  | _ => none
theorem call_lenD : ∃ r, CallR X (.builtin "len") r ∧ UnD X.K (fun u H Q => r [u] H Q) lenD := by
  refine ⟨_, call_len, fun H x u v Q rx e q => ?_⟩
  unfold lenD at e
  split at e
  · split at e
    · rename_i s hl
      cases e; cases rx
      exact ⟨_, s.length, rfl, ⟨by rw [mkS_length]; exact big_line hl, (mkS_length s).symm⟩, q.imm rfl⟩
    · cases e
  · rename_i l
    cases e
    obtain ⟨a, vs, rfl, h1, r1⟩ := rx
    exact ⟨_, l.length, rfl, .inl ⟨vs, h1, r1.length.symm⟩, q.imm rfl⟩
  · rename_i l
    cases e
    obtain ⟨a, vs, rfl, h1, r1⟩ := rx
    exact ⟨_, l.length, rfl, .inr ⟨vs, SqT.of h1, r1.length.symm⟩, q.imm rfl⟩
  · cases e
/-- a built-in function, a built-in class, of one argument -/
theorem pd_call1 {x : Str} {id : String} {f : D → Option Vl} {e : Expr} {a : SE} {p pos : Pos} (hm : X.mg x = none) (hv : bootBuiltins x = some (.builtin id)) (h : ∃ r, CallR X (.builtin id) r ∧ UnD X.K (fun u H Q => r [u] H Q) f) (ha : PEd X W e a) (hg : Gl X x := by rfl) (hn : x ≠ "__name__" := by decide)
    (hdb : (x == ("__debug__" : Str)) = false := by decide) (hs : starEach (e :: []) X.env = (false, eval e X.env) :: starEach [] X.env := by rfl) (hpl : (backTo pos (starEach [] X.env)).any (·.1) = false := by rfl) : PEd X W (.Call (.Name x p) [e] [] pos) (eUn f a) := by
  obtain ⟨r, h1, h2⟩ := h
  obtain ⟨te, a1, a2⟩ := ha
  exact ⟨_, pe_callB h1 hg hm hv (pa_cons a1 pa_nil hs) hn hdb hs hpl, sd_un (r := fun u H Q => r [u] H Q) h2 a2⟩
theorem pd_callT1 {x : Str} {T : String} {f : D → Option Vl} {e : Expr} {a : SE} {p pos : Pos} (hm : X.mg x = none) (hv : bootBuiltins x = some (.type T)) (h : ∃ r, CallR X (.type T) r ∧ UnD X.K (fun u H Q => r [u] H Q) f) (ha : PEd X W e a) (hg : Gl X x := by rfl) (hn : x ≠ "__name__" := by decide)
    (hdb : (x == ("__debug__" : Str)) = false := by decide) (hs : starEach (e :: []) X.env = (false, eval e X.env) :: starEach [] X.env := by rfl) (hpl : (backTo pos (starEach [] X.env)).any (·.1) = false := by rfl) : PEd X W (.Call (.Name x p) [e] [] pos) (eUn f a) := by
  obtain ⟨r, h1, h2⟩ := h
  obtain ⟨te, a1, a2⟩ := ha
  exact ⟨_, pe_callTy h1 hg hm hv (pa_cons a1 pa_nil hs) hn hdb hs hpl, sd_un (r := fun u H Q => r [u] H Q) h2 a2⟩
theorem pd_call2 {x : Str} {id : String} {f : D → D → Option Vl} {e e2 : Expr} {a b : SE} {p pos : Pos} (hm : X.mg x = none) (hv : bootBuiltins x = some (.builtin id)) (h : ∃ r, CallR X (.builtin id) r ∧ OpD X.K (fun u w H Q => r [u, w] H Q) f) (ha : PEd X W e a) (hb : PEd X W e2 b) (hg : Gl X x := by rfl) (hn : x ≠ "__name__" := by decide)
    (hdb : (x == ("__debug__" : Str)) = false := by decide) (hs : starEach (e :: [e2]) X.env = (false, eval e X.env) :: starEach [e2] X.env := by rfl) (hs2 : starEach (e2 :: []) X.env = (false, eval e2 X.env) :: starEach [] X.env := by rfl) (hpl : (backTo pos (starEach [e2] X.env)).any (·.1) = false := by rfl) : PEd X W (.Call (.Name x p) [e, e2] [] pos) (eBin f a b) := by
  obtain ⟨r, h1, h2⟩ := h
  obtain ⟨te, a1, a2⟩ := ha
  obtain ⟨tf, b1, b2⟩ := hb
  exact ⟨_, pe_callB h1 hg hm hv (pa_cons a1 (pa_cons b1 pa_nil hs2) hs) hn hdb hs hpl, sd_bin (r := fun u w H Q => r [u, w] H Q) h2 a2 b2⟩
def maxD : D → D → Option Vl
  | .int i, .int j => some (.imm (.int (if j > i then j else i)))
  | _, _ => none
def minD : D → D → Option Vl
  | .int i, .int j => some (.imm (.int (if j < i then j else i)))
  | _, _ => none
theorem call_maxD (hc : X.calm = true) : ∃ r, CallR X (.builtin "max") r ∧ OpD X.K (fun u w H Q => r [u, w] H Q) maxD := by
  refine ⟨_, call_max2 hc, fun H x y u w v Q rx ry e q => ?_⟩
  unfold maxD at e
  split at e
  · cases e; cases rx; cases ry; exact ⟨_, _, rfl, q.imm rfl⟩
  · cases e
theorem call_minD (hc : X.calm = true) : ∃ r, CallR X (.builtin "min") r ∧ OpD X.K (fun u w H Q => r [u, w] H Q) minD := by
  refine ⟨_, call_min2 hc, fun H x y u w v Q rx ry e q => ?_⟩
  unfold minD at e
  split at e
  · cases e; cases rx; cases ry; exact ⟨_, _, rfl, q.imm rfl⟩
  · cases e
def intD : D → Option Vl
  | .int i => some (.imm (.int i))
  | .bl b => some (.imm (.int (if b then 1 else 0)))
  | _ => none
theorem call_intD : ∃ r, CallR X (.type "int") r ∧ UnD X.K (fun u H Q => r [u] H Q) intD := by
  refine ⟨_, call_int1, fun H x u v Q rx e q => ?_⟩
  unfold intD at e
  split at e
  · cases e; cases rx; exact .inl ⟨_, rfl, q.imm rfl⟩
  · cases e; cases rx; exact .inr ⟨_, rfl, q.imm rfl⟩
  · cases e
def listD : D → Option Vl
  | .lst l => some (.own (.lst l))
  | .tup l => some (.own (.lst l))
  | _ => none
theorem call_listD' : ∃ r, CallR X (.type "list") r ∧ UnD X.K (fun u H Q => r [u] H Q) listD := by
  refine ⟨_, call_list_of, fun H x u v Q rx e q => ?_⟩
  unfold listD at e
  split at e
  · cases e
    obtain ⟨a, vs, rfl, h1, r1⟩ := rx
    exact ⟨a, vs, rfl, .inl h1, fun p hp => q.lst r1 hp⟩
  · cases e
    obtain ⟨a, vs, rfl, h1, r1⟩ := rx
    exact ⟨a, vs, rfl, .inr (SqT.of h1), fun p hp => q.lst r1 hp⟩
  · cases e
def tupleD : D → Option Vl
  | .lst l => some (.imm (.tup l))
  | .tup l => some (.imm (.tup l))
  | _ => none
theorem call_tupleD : ∃ r, CallR X (.type "tuple") r ∧ UnD X.K (fun u H Q => r [u] H Q) tupleD := by
  refine ⟨_, call_tuple_of, fun H x u v Q rx e q => ?_⟩
  unfold tupleD at e
  split at e
  · cases e
    obtain ⟨a, vs, rfl, h1, r1⟩ := rx
    exact ⟨a, vs, rfl, .inl ⟨h1, fun p hp => q.tup r1 hp⟩⟩
  · cases e
    obtain ⟨a, vs, rfl, h1, r1⟩ := rx
    exact ⟨a, vs, rfl, .inr ⟨SqT.of h1, q.imm ⟨a, vs, rfl, h1, r1⟩⟩⟩
  · cases e
/-- list(reversed(xs)) -/
def lrevD : D → Option Vl
  | .lst l => some (.own (.lst l.reverse))
  | _ => none
theorem RIs.rev {H : Hp} : ∀ {l : List D} {vs : List V}, RIs K H l vs → RIs K H l.reverse vs.reverse
  | [], _, h => by cases h; rfl
  | d :: l, _, ⟨v, r, e, q, h⟩ => by
    rw [e, List.reverse_cons, List.reverse_cons]
    exact (RIs.rev h).app ⟨v, [], rfl, q, rfl⟩
theorem pd_lrev {k : Nat} {e : Expr} {a : SE} {p1 p2 pos1 pos2 : Pos} (C : Ctx X W k) (hm : X.mg "list" = none) (hm2 : X.mg "reversed" = none) (ha : PEd X W e a) (hg : Gl X "list" := by rfl) (hg2 : Gl X "reversed" := by rfl) (na : starEach [e] X.env = (false, eval e X.env) :: starEach [] X.env := by rfl)
    (nb : starEach [.Call (.Name "reversed" p2) [e] [] pos2] X.env = (false, eval (.Call (.Name "reversed" p2) [e] [] pos2) X.env) :: starEach [] X.env := by rfl) : PEd X W (.Call (.Name "list" p1) [.Call (.Name "reversed" p2) [e] [] pos2] [] pos1) (eUn lrevD a) := by
  obtain ⟨te, a1, a2⟩ := ha
  refine ⟨_, pe_lrev C.calm hm hm2 a1 hg hg2 na nb, sd_un (r := rLrev X.K) (fun H x u v Q rx e q => ?_) a2⟩
  unfold lrevD at e
  split at e
  · cases e
    obtain ⟨a, vs, rfl, h1, r1⟩ := rx
    exact ⟨a, vs, rfl, h1, fun p hp => q.lst r1.rev hp⟩
  · cases e

/-! ### x[i] -/
def keyD : D → Option DK
  | .int i => some (.inl i)
  | .str s => some (.inr s)
  | _ => none
def keysD : List D → Option (List DK)
  | [] => some []
  | d :: l => match keyD d, keysD l with
    | some k, some ks => some (k :: ks)
    | _, _ => none
def assocD {α β : Type} [DecidableEq α] (k : α) : List (α × β) → Option β
  | [] => none
  | (a, b) :: l => if a = k then some b else assocD k l
def idxD : D → D → Option Vl
  | .lst l, .int i => (atI l i).map .imm
  | .tup l, .int i => (atI l i).map .imm
  | .str s, .int i => if s.length ≤ big then (atI s i).map fun c => .imm (.str [c]) else none
  | .dct l, k => match keyD k with
    | some k => (assocD k l).map .imm
    | none => none
  | .dcT l, .tup ks => match keysD ks with
    | some k => (assocD k l).map .imm
    | none => none
  | .deal sd nm lf, .str s => if s = [115, 101, 101, 100] then some (.imm (.int sd)) else if s = [110, 117, 109, 98, 101, 114] then some (.imm (.int nm)) else none
  | _, _ => none
theorem RIs.atI {H : Hp} {l : List D} {vs : List V} {i : Int} {d : D} (h : RIs K H l vs) (e : L2.atI l i = some d) : ∃ v, L2.atI vs i = some v ∧ RI K H d v := by
  unfold L2.atI at e ⊢
  rw [h.length]
  cases q : ixN l.length i with
  | none => rw [q] at e; cases e
  | some j => rw [q] at e; exact h.get e
theorem toK_inj {a b : DK} (h : toK a = toK b) : a = b := by
  cases a with
  | inl i => cases b with
    | inl j => cases h; rfl
    | inr t => cases h
  | inr s => cases b with
    | inl j => cases h
    | inr t =>
      have h' : (Sum.inr (mkS s) : Key) = Sum.inr (mkS t) := h
      injection h' with h2
      rw [mkS_inj h2]
theorem toKs_inj : ∀ {a b : List DK}, a.map toK = b.map toK → a = b
  | [], [], _ => rfl
  | [], _ :: _, h => by simp at h
  | _ :: _, [], h => by simp at h
  | x :: a, y :: b, h => by
    rw [List.map_cons, List.map_cons] at h
    injection h with h1 h2
    rw [toK_inj h1, toKs_inj h2]
theorem RIk.val {H : Hp} (k : DK) : ∀ {l : List (DK × D)} {vs : List (Key × V)}, RIk K H l vs → (∀ d, assocD k l = some d → ∃ v, valV vs (toK k) = some v ∧ RI K H d v) ∧ (assocD k l = none → valV vs (toK k) = none)
  | [], _, h => by cases h; exact ⟨fun d z => (by cases z), fun _ => rfl⟩
  | (a, d) :: l, vs, ⟨v, r, e, q, h⟩ => by
    subst e
    have ih := RIk.val k h
    by_cases hk : a = k
    · subst hk
      refine ⟨fun d' z => ?_, fun z => ?_⟩
      · unfold assocD at z
        rw [if_pos rfl] at z
        cases z
        exact ⟨v, by simp [valV], q⟩
      · unfold assocD at z
        rw [if_pos rfl] at z
        cases z
    · have hk' : toK a ≠ toK k := fun z => hk (toK_inj z)
      have ev : valV ((toK a, v) :: r) (toK k) = valV r (toK k) := by simp [valV, hk']
      unfold assocD
      rw [if_neg hk, ev]
      exact ih
theorem RIt.val {H : Hp} (k : List DK) : ∀ {l : List (List DK × D)} {vs : List (List Key × V)}, RIt K H l vs → (∀ d, assocD k l = some d → ∃ v, valV vs (k.map toK) = some v ∧ RI K H d v) ∧ (assocD k l = none → valV vs (k.map toK) = none)
  | [], _, h => by cases h; exact ⟨fun d z => (by cases z), fun _ => rfl⟩
  | (a, d) :: l, vs, ⟨v, r, e, q, h⟩ => by
    subst e
    have ih := RIt.val k h
    by_cases hk : a = k
    · subst hk
      refine ⟨fun d' z => ?_, fun z => ?_⟩
      · unfold assocD at z
        rw [if_pos rfl] at z
        cases z
        exact ⟨v, by simp [valV], q⟩
      · unfold assocD at z
        rw [if_pos rfl] at z
        cases z
    · have hk' : a.map toK ≠ k.map toK := fun z => hk (toKs_inj z)
      have ev : valV ((a.map toK, v) :: r) (k.map toK) = valV r (k.map toK) := by simp [valV, hk']
      unfold assocD
      rw [if_neg hk, ev]
      exact ih
theorem keyD_ok {H : Hp} {d : D} {v : V} {k : DK} (h : keyD d = some k) (r : RdR K H d v) : v = kV (toK k) := by
  cases d with
  | int i => cases h; cases r; rfl
  | str s => cases h; cases r; rfl
  | _ => cases h
theorem keysD_ok {H : Hp} : ∀ {l : List D} {vs : List V} {ks : List DK}, keysD l = some ks → RIs K H l vs → vs = (ks.map toK).map kV
  | [], _, _, h, r => by cases h; cases r; rfl
  | d :: l, _, ks, h, ⟨v, r, e, q, rs⟩ => by
    unfold keysD at h
    cases h1 : keyD d with
    | none => rw [h1] at h; cases h
    | some k =>
      cases h2 : keysD l with
      | none => rw [h1, h2] at h; cases h
      | some ks' =>
        rw [h1, h2] at h
        cases h
        rw [e, keyD_ok h1 q.rd, keysD_ok h2 rs]
        rfl
theorem ix_dictD (hu : X.A.units + 1 < cLine) : IxR X (fun x y H Q => ∃ a v, x = .ref a ∧ DGet H a y (some v) ∧ Q v H) := by
  intro value slice pins s σ H x y v u Q I rx ry h hs
  obtain ⟨a, w, rfl, g, q⟩ := h
  cases rx
  exact tail_any (dict_typeIs I g) PySem.F.slot_dict_getitem.lookup (d_getItem hu I g ry fun w' s' I' r => ⟨w, H, I', r, q⟩) hs
theorem ix_D (hu : X.A.units + 1 < cLine) : ∃ r, IxR X r ∧ OpD X.K r idxD := by
  refine ⟨_, ix_seq.or (ix_dictD hu), fun H x y u w v Q rx ry e q => ?_⟩
  unfold idxD at e
  split at e
  · rename_i l i
    obtain ⟨a, vs, rfl, h1, r1⟩ := rx
    cases ry
    cases ei : L2.atI l i with
    | none => rw [ei] at e; cases e
    | some d =>
      rw [ei] at e
      cases e
      obtain ⟨z, hz, rz⟩ := r1.atI ei
      exact .inl (.inl ⟨a, vs, i, z, rfl, rfl, h1, hz, q.imm rz⟩)
  · rename_i l i
    obtain ⟨a, vs, rfl, h1, r1⟩ := rx
    cases ry
    cases ei : L2.atI l i with
    | none => rw [ei] at e; cases e
    | some d =>
      rw [ei] at e
      cases e
      obtain ⟨z, hz, rz⟩ := r1.atI ei
      exact .inl (.inr (.inl ⟨a, vs, i, z, rfl, rfl, SqT.of h1, hz, q.imm rz⟩))
  · rename_i s i
    cases rx; cases ry
    split at e
    · rename_i hl
      cases ei : L2.atI s i with
      | none => rw [ei] at e; cases e
      | some c =>
        rw [ei] at e
        cases e
        exact .inl (.inr (.inr ⟨_, i, c, rfl, rfl, by rw [mkS_length]; exact big_line hl, by rw [mkS_list]; exact ei, q.imm rfl⟩))
    · cases e
  · rename_i l
    obtain ⟨a, vs, rfl, h1, r1⟩ := rx
    split at e
    · rename_i k' hk
      cases ea : assocD k' l with
      | none => rw [ea] at e; cases e
      | some d =>
        rw [ea] at e
        cases e
        obtain ⟨z, hz, rz⟩ := (r1.val k').1 d ea
        exact .inr ⟨a, z, rfl, .inl ⟨vs, toK k', h1, keyD_ok hk ry, hz.symm⟩, q.imm rz⟩
    · cases e
  · rename_i l ks
    obtain ⟨a, vs, rfl, h1, r1⟩ := rx
    obtain ⟨b, ws, rfl, h2, r2⟩ := ry
    split at e
    · rename_i k' hk
      cases ea : assocD k' l with
      | none => rw [ea] at e; cases e
      | some d =>
        rw [ea] at e
        cases e
        obtain ⟨z, hz, rz⟩ := (r1.val k').1 d ea
        refine .inr ⟨a, z, rfl, .inr ⟨vs, k'.map toK, b, h1, rfl, ?_, hz.symm⟩, q.imm rz⟩
        rw [h2, keysD_ok hk r2]
    · cases e
  · rename_i sd nm lf s
    obtain ⟨a, b, rfl, h1, r1⟩ := rx
    cases ry
    split at e
    · rename_i hs
      subst hs
      cases e
      exact .inr ⟨a, .int sd, rfl, .inl ⟨_, _, h1, (rfl : _ = kV (Sum.inr _)), by simp [valV, dealK]⟩, q.imm rfl⟩
    · split at e
      · rename_i h0 hs
        subst hs
        cases e
        refine .inr ⟨a, .int nm, rfl, .inl ⟨_, _, h1, (rfl : _ = kV (Sum.inr _)), ?_⟩, q.imm rfl⟩
        have n1 : mkS [115, 101, 101, 100] ≠ mkS [110, 117, 109, 98, 101, 114] := fun z => by have := mkS_inj z; simp at this
        simp [valV, dealK, n1]
      · cases e
  · cases e
theorem pd_ix {k : Nat} {a b : Expr} {sa sb : SE} {pos : Pos} (C : Ctx X W k) (ha : PEd X W a sa) (hb : PEd X W b sb) (hs : PlainIx b := by exact fun _ _ => rfl) : PEd X W (.Subscript a b pos) (eBin idxD sa sb) := by
  obtain ⟨r, h1, h2⟩ := ix_D (X := X) (by have := C.u64; omega)
  obtain ⟨ta, a1, a2⟩ := ha
  obtain ⟨tb, b1, b2⟩ := hb
  exact ⟨_, pe_ix h1 a1 b1 hs, sd_bin h2 a2 b2⟩
end
end PF

/-! membership, None, slices, lists that grow, the dealer -/
namespace PF
open PySem PySem.Spec PyProof.Rows
open L2
section
variable {X : Cx} {W : WX} {K : PySem.W.Frag} {mg : Str → Option Value}
/-! ### in -/
def flatD : D → Bool
  | .non => true
  | .bl _ => true
  | .int _ => true
  | .str _ => true
  | _ => false
theorem flat_ok {H : Hp} {d : D} {v : V} (h : flatD d = true) (r : RI K H d v) : flatV v = true := by
  cases d <;> first | (cases r; rfl) | cases h
theorem flats_ok {H : Hp} : ∀ {l : List D} {vs : List V}, l.all flatD = true → RIs K H l vs → vs.all flatV = true
  | [], _, _, r => by cases r; rfl
  | d :: l, _, h, ⟨v, r, e, q, rs⟩ => by
    rw [List.all_cons, Bool.and_eq_true] at h
    rw [e, List.all_cons, flat_ok h.1 q, flats_ok h.2 rs]; rfl
theorem eqV_ok {H : Hp} {d e : D} {v u : V} (h : flatD d = true) (k : flatD e = true) (r : RdR K H d v) (t : RdR K H e u) : eqV v u = eqP d e := by
  cases d <;> cases e <;> first | (cases h; done) | (cases k; done) | (cases r; cases t; first | rfl | exact mkS_beq _ _)
theorem inV_ok {H : Hp} {e : D} {u : V} (k : flatD e = true) (t : RdR K H e u) : ∀ {l : List D} {vs : List V}, l.all flatD = true → RIs K H l vs → inV u vs = l.any fun d => eqP d e
  | [], _, _, r => by cases r; rfl
  | d :: l, _, h, ⟨v, r, ev, q, rs⟩ => by
    rw [List.all_cons, Bool.and_eq_true] at h
    have ih := inV_ok k t h.2 rs
    unfold inV at ih ⊢
    rw [ev, List.any_cons, List.any_cons, ih, eqV_ok h.1 k q.rd t]
def memD (neg : Bool) : D → D → Option Vl
  | d, .lst l => if flatD d && l.all flatD then some (.imm (.bl (if neg then !(l.any fun x => eqP x d) else l.any fun x => eqP x d))) else none
  | d, .tup l => if flatD d && l.all flatD then some (.imm (.bl (if neg then !(l.any fun x => eqP x d) else l.any fun x => eqP x d))) else none
  | .str [c], .str s => some (.imm (.bl (if neg then !decide (c ∈ s) else decide (c ∈ s))))
  | d, .dct l => match keyD d with
    | some k => some (.imm (.bl (if neg then !(assocD k l).isSome else (assocD k l).isSome)))
    | none => none
  | .tup ks, .dcT l => match keysD ks with
    | some k => some (.imm (.bl (if neg then !(assocD k l).isSome else (assocD k l).isSome)))
    | none => none
  | _, _ => none
theorem op_inDct (hu : X.A.units + 1 < cLine) : OpR X (compareOp .In) (fun y x H Q => ∃ a o, x = .ref a ∧ DGet H a y o ∧ Q (.bl o.isSome) H) := by
  intro pins s σ H y x u v Q I ry rx h
  obtain ⟨a, o, rfl, g, q⟩ := h
  cases rx
  exact d_in hu I g ry fun s' I' => ⟨.bl _, H, I', rfl, q⟩
theorem op_notInDct (hu : X.A.units + 1 < cLine) : OpR X (compareOp .NotIn) (fun y x H Q => ∃ a o, x = .ref a ∧ DGet H a y o ∧ Q (.bl (!o.isSome)) H) := by
  intro pins s σ H y x u v Q I ry rx h
  obtain ⟨a, o, rfl, g, q⟩ := h
  cases rx
  exact d_notIn hu I g ry fun s' I' => ⟨.bl _, H, I', rfl, q⟩
theorem optIs {α β : Type} {R : α → β → Prop} {o : Option α} {p : Option β} (h1 : ∀ d, o = some d → ∃ v, p = some v ∧ R d v) (h2 : o = none → p = none) : p.isSome = o.isSome := by
  cases o with
  | none => rw [h2 rfl]; rfl
  | some d => obtain ⟨v, e, _⟩ := h1 d rfl; rw [e]; rfl
theorem memD_cases {neg : Bool} {H : Hp} {x y : D} {u w : V} {v : Vl} {Q : VK} (rx : RdR K H x u) (ry : RdR K H y w) (e : memD neg x y = some v) (q : NewQ K H v Q) :
    rIn K neg u w H Q ∨ (∃ (c : Nat) (z : Str), u = .str ⟨#[c]⟩ ∧ w = .str z ∧ Q (.bl (if neg then !decide (c ∈ z.cps.toList) else decide (c ∈ z.cps.toList))) H) ∨ ∃ a o, w = .ref a ∧ DGet H a u o ∧ Q (.bl (if neg then !o.isSome else o.isSome)) H := by
  unfold memD at e
  split at e
  · rename_i l
    split at e
    · rename_i h
      rw [Bool.and_eq_true] at h
      cases e
      obtain ⟨a, vs, rfl, h1, r1⟩ := ry
      refine .inl ⟨a, vs, rfl, .inl h1, ?_, flats_ok h.2 r1, ?_⟩
      · cases x <;> first | (cases rx; rfl) | cases h.1
      · rw [inV_ok h.1 rx h.2 r1]; exact q.imm rfl
    · cases e
  · rename_i l
    split at e
    · rename_i h
      rw [Bool.and_eq_true] at h
      cases e
      obtain ⟨a, vs, rfl, h1, r1⟩ := ry
      refine .inl ⟨a, vs, rfl, .inr (SqT.of h1), ?_, flats_ok h.2 r1, ?_⟩
      · cases x <;> first | (cases rx; rfl) | cases h.1
      · rw [inV_ok h.1 rx h.2 r1]; exact q.imm rfl
    · cases e
  · rename_i c s
    cases e; cases rx; cases ry
    refine .inr (.inl ⟨c, mkS s, rfl, rfl, ?_⟩)
    rw [mkS_list]
    exact q.imm rfl
  · rename_i l
    split at e
    · rename_i k hk
      cases e
      obtain ⟨a, vs, rfl, h1, r1⟩ := ry
      refine .inr (.inr ⟨a, _, rfl, .inl ⟨vs, toK k, h1, keyD_ok hk rx, rfl⟩, ?_⟩)
      rw [optIs (r1.val k).1 (r1.val k).2]
      exact q.imm rfl
    · cases e
  · rename_i ks l
    obtain ⟨a, vs, rfl, h1, r1⟩ := ry
    obtain ⟨b, ws, rfl, h2, r2⟩ := rx
    split at e
    · rename_i k hk
      cases e
      refine .inr (.inr ⟨a, _, rfl, .inr ⟨vs, k.map toK, b, h1, rfl, by rw [h2, keysD_ok hk r2], rfl⟩, ?_⟩)
      rw [optIs (r1.val k).1 (r1.val k).2]
      exact q.imm rfl
    · cases e
  · cases e
theorem op_memD (hu : X.A.units + 1 < cLine) : ∃ r, OpR X (compareOp .In) r ∧ OpD X.K r (memD false) :=
  ⟨_, PF.OpR.or op_in_seq (PF.OpR.or op_in_sign (op_inDct hu)), fun H x y u w v Q rx ry e q => memD_cases rx ry e q⟩
theorem op_nmemD (hu : X.A.units + 1 < cLine) : ∃ r, OpR X (compareOp .NotIn) r ∧ OpD X.K r (memD true) :=
  ⟨_, PF.OpR.or op_notIn_seq (PF.OpR.or op_notIn_sign (op_notInDct hu)), fun H x y u w v Q rx ry e q => memD_cases rx ry e q⟩
theorem Ctx.u1 {k : Nat} (C : Ctx X W k) : X.A.units + 1 < cLine := by have := C.u64; omega
/-- e in T, e not in T: a tuple of the module -/
def cinD (neg : Bool) (l : List D) : D → Option Vl := fun d => if flatD d then some (.imm (.bl (if neg then !(l.any fun x => eqP x d) else l.any fun x => eqP x d))) else none
theorem cin_r {neg : Bool} {c : Addr} {vs : List V} {l : List D} (hk : KT K c vs) (hl : ∀ H, RIs K H l vs) (hf : l.all flatD = true) : UnD K (fun u H Q => rIn K neg u (.ref c) H Q) (cinD neg l) := by
  intro H x u v Q rx e q
  unfold cinD at e
  split at e
  · rename_i h
    cases e
    refine ⟨c, vs, rfl, .inr (hk H), ?_, flats_ok hf (hl H), ?_⟩
    · cases x <;> first | (cases rx; rfl) | cases h
    · rw [inV_ok h rx hf (hl H)]; exact q.imm rfl
  · cases e
theorem sd_un2 {r : R2} {f : D → Option Vl} {ta : TE} {a : SE} {c : V} (ho : UnD K (fun u H Q => r u c H Q) f) (ha : SdE K mg W ta a) : SdE K mg W (tOp r ta (tC c)) (eUn f a) := sd_un (r := fun u H Q => r u c H Q) ho ha
theorem pd_cin {x : Str} {c : Addr} {vs : List V} {l : List D} {e : Expr} {a : SE} {p pos : Pos} (ha : PEd X W e a) (hm : X.mg x = some (.ref c)) (hk : KT X.K c vs) (hl : ∀ H, RIs X.K H l vs) (hf : l.all flatD = true) (hg : Gl X x := by rfl) (hd : (x == ("__debug__" : Str)) = false := by decide)
    (hmk : behindInMarks .In (.Name x p) = false := by first | rfl | exact nomark _) : PEd X W (.Compare e [.In] [.Name x p] pos) (eUn (cinD false l) a) := by
  obtain ⟨ta, a1, a2⟩ := ha
  exact ⟨_, pe_cmpR op_in_seq a1 (pe_glob (v := .ref c) hg hm rfl hd) hmk, sd_un2 (cin_r hk hl hf) a2⟩
theorem ptd_cin {x : Str} {c : Addr} {vs : List V} {l : List D} {e : Expr} {a : SE} {p pos : Pos} (ha : PEd X W e a) (hm : X.mg x = some (.ref c)) (hk : KT X.K c vs) (hl : ∀ H, RIs X.K H l vs) (hf : l.all flatD = true) (hg : Gl X x := by rfl) (hd : (x == ("__debug__" : Str)) = false := by decide)
    (hmk : behindInMarks .In (.Name x p) = false := by first | rfl | exact nomark _) : PTd X W (.Compare e [.In] [.Name x p] pos) (tV (eUn (cinD false l) a)) := by
  obtain ⟨ta, a1, a2⟩ := ha
  exact ⟨_, pt_cmpR op_in_seq a1 (pe_glob (v := .ref c) hg hm rfl hd) hmk, sd_tV (sd_un2 (cin_r hk hl hf) a2)⟩

/-! ### is None -/
def isND (neg : Bool) : D → D → Option Vl
  | .non, .non => some (.imm (.bl (!neg)))
  | _, .non => some (.imm (.bl neg))
  | _, _ => none
theorem rd_non {H : Hp} {d : D} {u : V} (r : RdR K H d u) : u = .non ↔ d = .non := by
  cases d with
  | non => cases r; simp
  | bl _ => cases r; simp
  | int _ => cases r; simp
  | str _ => cases r; simp
  | tup _ => obtain ⟨a, vs, rfl, _⟩ := r; simp
  | lst _ => obtain ⟨a, vs, rfl, _⟩ := r; simp
  | dct _ => obtain ⟨a, vs, rfl, _⟩ := r; simp
  | dcT _ => obtain ⟨a, vs, rfl, _⟩ := r; simp
  | deal _ _ _ => obtain ⟨a, vs, rfl, _⟩ := r; simp
theorem isN_r {neg : Bool} {H : Hp} {x y : D} {u w : V} {v : Vl} {Q : VK} (rx : RdR K H x u) (ry : RdR K H y w) (e : isND neg x y = some v) (q : NewQ K H v Q) : w = .non ∧ Q (.bl (if neg then !decide (u = .non) else decide (u = .non))) H := by
  unfold isND at e
  split at e
  · cases e; cases rx; cases ry
    refine ⟨rfl, ?_⟩
    have := q.imm rfl
    cases neg <;> simpa using this
  · rename_i hx
    cases e; cases ry
    refine ⟨rfl, ?_⟩
    have hu : decide (u = .non) = false := decide_eq_false fun z => hx ((rd_non rx).mp z)
    rw [hu]
    have := q.imm rfl
    cases neg <;> simpa using this
  · cases e
theorem op_isND : ∃ r, OpR X (compareOp .Is) r ∧ OpD X.K r (isND false) := ⟨_, op_isN, fun H x y u w v Q rx ry e q => isN_r rx ry e q⟩
theorem op_isnotND : ∃ r, OpR X (compareOp .IsNot) r ∧ OpD X.K r (isND true) := ⟨_, op_notN, fun H x y u w v Q rx ry e q => isN_r rx ry e q⟩

/-! ### slices -/
theorem VlR.keep2 {P : Nat → Option V} {σ : L2.St} {H H' : Hp} {F F' : Nat → FS} {S S' : FS} {v : Vl} {u : V} (r : VlR K σ H S v u) (dj : ∀ i a, F i a → ¬ S a) (f : Frm (PF.Un F) (fun a => PF.Un F' a ∨ S' a) H H') : ∃ S2, VlR K σ H' S2 v u ∧ ∀ i a, F' i a → ¬ S2 a := by
  cases v with
  | imm d => exact ⟨fun _ => False, RI.mono f.ext r, fun _ _ _ z => z⟩
  | ref i => exact ⟨fun _ => False, r, fun _ _ _ z => z⟩
  | own d =>
    refine ⟨S, VlR.keep (F := F) r dj f, fun i a z s => ?_⟩
    rcases f.sub a (.inl ⟨i, z⟩) with q | q
    · obtain ⟨j, q⟩ := q
      exact dj j a q s
    · exact r.2 a s q
def cutD {α : Type} (l : List α) (lo hi : Option Int) : List α := (l.drop (HT.sIx l.length 0 lo)).take (HT.sIx l.length l.length hi - HT.sIx l.length 0 lo)
def slcD (lo hi : Option Int) : D → Option Vl
  | .lst l => some (.own (.lst (cutD l lo hi)))
  | .tup l => some (.imm (.tup (cutD l lo hi)))
  | .str s => if s.length ≤ big then some (.imm (.str (cutD s lo hi))) else none
  | _ => none
/-- a part of a slice -/
inductive Prt where
  | no | at (a : SE)
def prt : Prt → Env → Out (Option Int)
  | .no, ρ => .ok none ρ
  | .at a, ρ => (a ρ).bind fun v ρ1 => match v with
    | .imm (.int i) => .ok (some i) ρ1
    | _ => .fail
def eSlc (a : SE) (lo hi : Prt) : SE := fun ρ => (a ρ).bind fun v ρ1 => (prt lo ρ1).bind fun l ρ2 => (prt hi ρ2).bind fun h ρ3 => match rd ρ3 v with
  | some d => match slcD l h d with
    | some r => .ok r ρ3
    | none => .fail
  | none => .fail
def SdO (K : PySem.W.Frag) (mg : Str → Option Value) (W : WX) (t : TO) (p : Prt) : Prop := ∀ P σ H F ρ Q, EnvR K P H F ρ σ → PostO K mg P W σ (fun _ _ a b => a = b) Q F H (prt p ρ) → t σ H Q
def POd (X : Cx) (W : WX) (e : Option Expr) (p : Prt) : Prop := ∃ t, PO X e t ∧ SdO X.K X.mg W t p
theorem pod_no : POd X W none .no := ⟨_, po_none, fun P σ H F ρ Q E h => h none H F (fun _ => False) E rfl (fun _ _ _ z => z) (addS (Frm.refl _ _))⟩
theorem pod_at {e : Expr} {a : SE} (h : PEd X W e a) : POd X W (some e) (.at a) := by
  obtain ⟨te, h1, h2⟩ := h
  refine ⟨_, po_some h1, fun P σ H F ρ Q E h => ?_⟩
  refine h2 P σ H F ρ _ E ?_
  unfold prt at h
  dsimp only at h
  cases ea : a ρ with
  | fail => rw [ea] at h; exact h
  | exc x ρ1 => rw [ea] at h; exact h
  | ok v ρ1 =>
    rw [ea, Out.bind_ok] at h
    intro u H1 F1 S1 E1 R1 dj1 f1
    split at h
    · rename_i i
      cases R1
      exact ⟨i, rfl, h (some i) H1 F1 S1 E1 rfl dj1 f1⟩
    · exact h.elim
theorem sl_D : ∃ r : V → Option Int → Option Int → Hp → VK → Prop, L2.SlR X r ∧ ∀ H lo hi x u v Q, RdR X.K H x u → slcD lo hi x = some v → NewQ X.K H v Q → r u lo hi H Q := by
  refine ⟨_, sl_list.or (sl_tupA.or sl_str), fun H lo hi x u v Q rx e q => ?_⟩
  have cut : ∀ {l : List D} {vs : List V}, RIs X.K H l vs → RIs X.K H (cutD l lo hi) (cutV vs lo hi) := fun {l vs} r => by
    unfold cutD cutV
    rw [r.length]
    exact (r.drop _).take _
  unfold slcD at e
  split at e
  · cases e
    obtain ⟨a, vs, rfl, h1, r1⟩ := rx
    exact .inl ⟨a, vs, rfl, h1, fun p hp => q.lst (cut r1) hp⟩
  · rename_i l
    cases e
    obtain ⟨a, vs, rfl, h1, r1⟩ := rx
    refine .inr (.inl ⟨a, vs, rfl, SqT.of h1, fun hw => ?_, fun _ p hp => q.tup (cut r1) hp⟩)
    have e0 : cutD l lo hi = l := by
      unfold cutD
      rw [r1.length] at hw
      rw [hw.1, hw.2, List.drop_zero, Nat.sub_zero, List.take_length]
    rw [e0] at q
    exact q.imm ⟨a, vs, rfl, h1, r1⟩
  · rename_i s
    split at e
    · rename_i hl
      cases e; cases rx
      refine .inr (.inr ⟨_, rfl, by rw [mkS_length]; exact big_line hl, ?_⟩)
      have e1 : cutS (mkS s) lo hi = mkS (cutD s lo hi) := by
        unfold cutS cutD mkS
        simp [Str.length]
      rw [e1]
      exact q.imm rfl
    · cases e
  · cases e
theorem pd_slc {e : Expr} {lo hi : Option Expr} {a : SE} {pl ph : Prt} {pos p2 : Pos} (ha : PEd X W e a) (hl : POd X W lo pl) (hh : POd X W hi ph) : PEd X W (.Subscript e (.Slice lo hi none p2) pos) (eSlc a pl ph) := by
  obtain ⟨r, s1, s2⟩ := sl_D (X := X)
  obtain ⟨te, a1, a2⟩ := ha
  obtain ⟨tl, l1, l2⟩ := hl
  obtain ⟨th, h1, h2⟩ := hh
  refine ⟨_, pe_slice s1 a1 l1 h1, fun P σ H F ρ Q E h => ?_⟩
  refine a2 P σ H F ρ _ E ?_
  unfold eSlc at h
  cases ea : a ρ with
  | fail => rw [ea] at h; exact h
  | exc x ρ1 => rw [ea] at h; exact h
  | ok v ρ1 =>
    rw [ea, Out.bind_ok] at h
    intro u1 H1 F1 S1 E1 R1 dj1 f1
    refine l2 P σ H1 F1 ρ1 _ E1 ?_
    cases eb : prt pl ρ1 with
    | fail => rw [eb] at h; exact h
    | exc x ρ2 => rw [eb] at h; exact h.from f1
    | ok l ρ2 =>
      rw [eb, Out.bind_ok] at h
      intro u2 H2 F2 S2 E2 R2 dj2 f2
      cases R2
      refine h2 P σ H2 F2 ρ2 _ E2 ?_
      cases ec : prt ph ρ2 with
      | fail => rw [ec] at h; exact h
      | exc x ρ3 => rw [ec] at h; exact (h.from f1).from f2
      | ok hh ρ3 =>
        rw [ec, Out.bind_ok] at h
        intro u3 H3 F3 S3 E3 R3 dj3 f3
        cases R3
        obtain ⟨S4, R4, dj4⟩ := VlR.keep2 (P := P) R1 dj1 f2
        have R5 := R4.keep dj4 f3
        cases e1 : rd ρ3 v with
        | none => rw [e1] at h; exact h.elim
        | some d =>
          rw [e1] at h
          cases e2 : slcD l hh d with
          | none => simp only [e2] at h; exact h.elim
          | some r' =>
            simp only [e2] at h
            exact s2 H3 l hh d u1 r' _ (rd_ok E3 R5 e1) e2 (PostO.new E3 (((h.from f1).from f2).from f3))
end
end PF

/-! lists that grow, the dealer, dicts -/
namespace PF
open PySem PySem.Spec PyProof.Rows
open L2
section
variable {X : Cx} {W : WX} {K : PySem.W.Frag} {mg : Str → Option Value}
/-- slot i's own thing gets another content -/
def reS (i : Nat) (d : D) (ρ : Env) : Option Env := match ρ[i]? with
  | some (.own _) => some (ρ.set i (.own d))
  | some (.par _) => some (ρ.set i (.par d))
  | _ => none
/-- what slot i holds to be written -/
def owS (i : Nat) (ρ : Env) : Option D := match ρ[i]? with
  | some (.own d) => some d
  | some (.par d) => some d
  | _ => none
theorem owS_ok {P : Nat → Option V} {H : Hp} {F : Nat → FS} {ρ : Env} {σ : L2.St} {i : Nat} {d : D} (E : EnvR K P H F ρ σ) (h : owS i ρ = some d) : i < ρ.length ∧ ∃ v, σ[i]? = some (some v) ∧ OwnR K H (F i) d v := by
  unfold owS at h
  cases q : ρ[i]? with
  | none => rw [q] at h; cases h
  | some s =>
    rw [q] at h
    have z := E.sl i s q
    cases s with
    | own d' => cases h; obtain ⟨v, e, r⟩ := z; exact ⟨lt_of_get q, v, join_some e, r⟩
    | par d' => cases h; obtain ⟨v, e, _, r⟩ := z; exact ⟨lt_of_get q, v, join_some e, r⟩
    | non => cases h
    | imm _ => cases h
theorem reS_ok {P : Nat → Option V} {H : Hp} {F : Nat → FS} {ρ ρ' : Env} {σ : L2.St} {i : Nat} {d : D} {a : Addr} {o : HO} {v : V} (E : EnvR K P H F ρ σ) (h : reS i d ρ = some ρ') (hF : F i a) (n1 : ∀ b xs, H b = some (.tup xs) → b ≠ a) (n2 : ∀ b o u, H b = some (.frz o u) → b ≠ a)
    (hv : σ[i]? = some (some v)) (r : OwnR K (upd H a o) (F i) d v) : EnvR K P (upd H a o) F ρ' σ := by
  unfold reS at h
  cases q : ρ[i]? with
  | none => rw [q] at h; cases h
  | some s =>
    rw [q] at h
    have z := E.sl i s q
    rw [hv] at z
    cases s with
    | own d' =>
      cases h
      exact E.wr (lt_of_get q) hF n1 n2 (by rw [hv]; exact ⟨v, rfl, r⟩)
    | par d' =>
      cases h
      obtain ⟨v', e, hp, _⟩ := z
      cases e
      exact E.wr (lt_of_get q) hF n1 n2 (by rw [hv]; exact ⟨_, rfl, hp, r⟩)
    | non => cases h
    | imm _ => cases h
theorem ne_mut {H : Hp} {a : Addr} {o : HO} (h : H a = some o) (m : Mut (some o)) : (∀ b xs, H b = some (.tup xs) → b ≠ a) ∧ (∀ b o u, H b = some (.frz o u) → b ≠ a) :=
  ⟨fun b xs q z => by rw [z, h] at q; cases q; exact m, fun b o u q z => by rw [z, h] at q; cases q; exact m⟩
/-- x.append(e) -/
def sApp (i : Nat) (a : SE) : SS := fun ρ => match owS i ρ with
  | some (.lst _) => match a ρ with
    | .ok (.imm d) ρ1 => match owS i ρ1 with
      | some (.lst l) => if l.length < big then match reS i (.lst (l ++ [d])) ρ1 with
          | some ρ2 => .nx ρ2
          | none => .fail
        else .fail
      | _ => .fail
    | .exc x ρ1 => .exc x ρ1
    | _ => .fail
  | _ => .fail
theorem sd_app {te : TE} {a : SE} (i : Nat) (ha : SdE K mg W te a) : SdS K mg W (tDrop (tBM K "list" rAppend (tVar i) (tCons te tNil))) (sApp i a) := by
  intro P σ H F ρ D0 E h
  unfold sApp at h
  split at h
  · rename_i l0 q0
    obtain ⟨hi, v, hv, r0⟩ := owS_ok E q0
    obtain ⟨p, vs0, e, hF, hp, _⟩ := r0
    subst e
    refine ⟨.ref p, hv, .inl ⟨rfl, vs0, SqL.of hp⟩, ?_⟩
    refine ha P σ H F ρ _ E ?_
    cases ea : a ρ with
    | fail => rw [ea] at h; exact h
    | exc x ρ1 => rw [ea] at h; exact fun cls d H1 F1 E1 r f => h cls d σ H1 F1 E1 r f
    | ok v' ρ1 =>
      rw [ea] at h
      intro u H1 F1 S1 E1 R1 dj1 f1
      cases v' with
      | own d => exact h.elim
      | ref j => exact h.elim
      | imm d =>
        dsimp only at h
        split at h
        · rename_i l q1
          split at h
          · rename_i hl
            cases q2 : reS i (.lst (l ++ [d])) ρ1 with
            | none => rw [q2] at h; exact h.elim
            | some ρ2 =>
              rw [q2] at h
              obtain ⟨hi1, v1, hv1, r1⟩ := owS_ok E1 q1
              rw [hv] at hv1
              cases hv1
              obtain ⟨p', vs, e, hF1, hp1, rs⟩ := r1
              cases e
              have hlen : vs.length < sizeLine := by rw [rs.length]; exact Nat.lt_of_lt_of_le hl (big_line (Nat.le_refl _))
              refine ⟨p, vs, u, rfl, rfl, hp1, hlen, ?_⟩
              obtain ⟨n1, n2⟩ := ne_mut hp1 trivial
              have fr : Frm (PF.Un F1) (PF.Un F1) H1 (upd H1 p (.lst (vs ++ [u]))) := Frm.upd1 ⟨i, hF1⟩ (by rw [hp1]; exact fun z => nomatch z) n1 n2
              have r2 : OwnR K (upd H1 p (.lst (vs ++ [u]))) (F1 i) (.lst (l ++ [d])) (.ref p) := ⟨p, vs ++ [u], rfl, hF1, upd_same, (rs.mono fr.ext).app ⟨u, [], rfl, RI.mono fr.ext R1, rfl⟩⟩
              exact h σ _ F1 (reS_ok E1 q2 hF1 n1 n2 hv r2) ((noS (U := fun _ => False) f1).trans fr)
          · exact h.elim
        · exact h.elim
  · exact h.elim
theorem psd_app {i : Nat} {x : Str} {e : Expr} {a : SE} {apos cpos p pos : Pos} (ha : PEd X W e a) (hN : X.N[i]? = some x := by rfl) (hv : Vis X.env.scope x := by first | exact Or.inl rfl | exact Or.inr (Or.inl rfl) | exact Or.inr (Or.inr rfl)) (hd : (x == ("__debug__" : Str)) = false := by decide)
    (hcd : (x == ("__classdict__" : Str)) = false := by decide) (hs : swapsWith (.Call (.Attribute (.Name x p) "append" apos) [e] [] cpos) none pos.line X.env = pure false := by rfl) (hbase : attributeBase (.Name x p) "append" X.env (eval (.Name x p) X.env) = eval (.Name x p) X.env := by rfl)
    (hfew : ((backTo cpos (starEach [e] X.env)).all (fun x => !x.1) && (backToKw cpos (keywordEach [] X.env)).all (fun x => x.1.isSome) && decide ([e].length + ([] : List Keyword).length + (if ([] : List Keyword).isEmpty then 0 else 1) < 30)) = true := by rfl)
    (hline : (apos.endLine == cpos.line) = true := by rfl) (hse : starEach (e :: []) X.env = (false, eval e X.env) :: starEach [] X.env := by rfl) (hplain : (backTo cpos (starEach [] X.env)).any (·.1) = false := by rfl) :
    PSd X W (.Expr (.Call (.Attribute (.Name x p) "append" apos) [e] [] cpos) pos) (sApp i a) := by
  obtain ⟨te, a1, a2⟩ := ha
  exact ⟨_, ps_expr (pe_bm PySem.F.plainAttrs_list PySem.F.slot_list_append PySem.F.type_list_append mt_append (pe_var hN hv hd hcd) (pa_cons a1 pa_nil hse) hbase hfew hline hse hplain) hs, sd_app i a2⟩
/-- x.extend(e), e a list that is written nowhere else -/
def sExt (i : Nat) (a : SE) : SS := fun ρ => match owS i ρ with
  | some (.lst _) => match a ρ with
    | .ok (.own (.lst m)) ρ1 => match owS i ρ1 with
      | some (.lst l) => if l.length + m.length ≤ big then match reS i (.lst (l ++ m)) ρ1 with
          | some ρ2 => .nx ρ2
          | none => .fail
        else .fail
      | _ => .fail
    | .exc x ρ1 => .exc x ρ1
    | _ => .fail
  | _ => .fail
theorem sd_ext {te : TE} {a : SE} (i : Nat) (ha : SdE K mg W te a) : SdS K mg W (tDrop (tBM K "list" rExtend (tVar i) (tCons te tNil))) (sExt i a) := by
  intro P σ H F ρ D0 E h
  unfold sExt at h
  split at h
  · rename_i l0 q0
    obtain ⟨hi, v, hv, r0⟩ := owS_ok E q0
    obtain ⟨p, vs0, e, hF, hp, _⟩ := r0
    subst e
    refine ⟨.ref p, hv, .inl ⟨rfl, vs0, SqL.of hp⟩, ?_⟩
    refine ha P σ H F ρ _ E ?_
    cases ea : a ρ with
    | fail => rw [ea] at h; exact h
    | exc x ρ1 => rw [ea] at h; exact fun cls d H1 F1 E1 r f => h cls d σ H1 F1 E1 r f
    | ok v' ρ1 =>
      rw [ea] at h
      intro u H1 F1 S1 E1 R1 dj1 f1
      cases v' with
      | imm d => exact h.elim
      | ref j => exact h.elim
      | own d =>
        cases d with
        | lst m =>
          dsimp only at h
          split at h
          · rename_i l q1
            split at h
            · rename_i hl
              cases q2 : reS i (.lst (l ++ m)) ρ1 with
              | none => rw [q2] at h; exact h.elim
              | some ρ2 =>
                rw [q2] at h
                obtain ⟨hi1, v1, hv1, r1⟩ := owS_ok E1 q1
                rw [hv] at hv1
                cases hv1
                obtain ⟨p', vs, e, hF1, hp1, rs⟩ := r1
                cases e
                obtain ⟨⟨pb, ws, eb, hb, hpb, rw'⟩, _⟩ := R1
                subst eb
                refine ⟨p, pb, vs, ws, rfl, rfl, hp1, hpb, by rw [rs.length, rw'.length]; exact big_line hl, ?_⟩
                obtain ⟨n1, n2⟩ := ne_mut hp1 trivial
                have fr : Frm (PF.Un F1) (PF.Un F1) H1 (upd H1 p (.lst (vs ++ ws))) := Frm.upd1 ⟨i, hF1⟩ (by rw [hp1]; exact fun z => nomatch z) n1 n2
                have r2 : OwnR K (upd H1 p (.lst (vs ++ ws))) (F1 i) (.lst (l ++ m)) (.ref p) := ⟨p, vs ++ ws, rfl, hF1, upd_same, (rs.mono fr.ext).app (rw'.mono fr.ext)⟩
                exact h σ _ F1 (reS_ok E1 q2 hF1 n1 n2 hv r2) ((noS (U := fun _ => False) f1).trans fr)
            · exact h.elim
          · exact h.elim
        | _ => exact h.elim
  · exact h.elim
theorem psd_ext {i : Nat} {x : Str} {e : Expr} {a : SE} {apos cpos p pos : Pos} (ha : PEd X W e a) (hN : X.N[i]? = some x := by rfl) (hv : Vis X.env.scope x := by first | exact Or.inl rfl | exact Or.inr (Or.inl rfl) | exact Or.inr (Or.inr rfl)) (hd : (x == ("__debug__" : Str)) = false := by decide)
    (hcd : (x == ("__classdict__" : Str)) = false := by decide) (hs : swapsWith (.Call (.Attribute (.Name x p) "extend" apos) [e] [] cpos) none pos.line X.env = pure false := by rfl) (hbase : attributeBase (.Name x p) "extend" X.env (eval (.Name x p) X.env) = eval (.Name x p) X.env := by rfl)
    (hfew : ((backTo cpos (starEach [e] X.env)).all (fun x => !x.1) && (backToKw cpos (keywordEach [] X.env)).all (fun x => x.1.isSome) && decide ([e].length + ([] : List Keyword).length + (if ([] : List Keyword).isEmpty then 0 else 1) < 30)) = true := by rfl)
    (hline : (apos.endLine == cpos.line) = true := by rfl) (hse : starEach (e :: []) X.env = (false, eval e X.env) :: starEach [] X.env := by rfl) (hplain : (backTo cpos (starEach [] X.env)).any (·.1) = false := by rfl) :
    PSd X W (.Expr (.Call (.Attribute (.Name x p) "extend" apos) [e] [] cpos) pos) (sExt i a) := by
  obtain ⟨te, a1, a2⟩ := ha
  exact ⟨_, ps_expr (pe_bm PySem.F.plainAttrs_list PySem.F.slot_list_extend PySem.F.type_list_extend mt_extend (pe_var hN hv hd hcd) (pa_cons a1 pa_nil hse) hbase hfew hline hse hplain) hs, sd_ext i a2⟩

/-! ### the dealer -/
/-- the three parts of a dealer's display, made -/
def eDeal (a b c : SE) : SE := fun ρ => (a ρ).bind fun va ρ1 => (b ρ1).bind fun vb ρ2 => (c ρ2).bind fun vc ρ3 => match va, vb, vc with
  | .imm (.int sd), .imm (.int nm), .own (.lst l) => match l.mapM (fun d => match d with
      | .int i => some i
      | _ => none) with
    | some lf => .ok (.own (.deal sd nm lf)) ρ3
    | none => .fail
  | _, _, _ => .fail
theorem ints_ok {H : Hp} : ∀ {l : List D} {vs : List V} {ns : List Int}, l.mapM (fun d => match d with
      | .int i => some i
      | _ => none) = some ns → RIs K H l vs → vs = ns.map V.int
  | [], _, ns, h, r => by cases r; simp at h; subst h; rfl
  | d :: l, _, ns, h, ⟨v, r, e, q, rs⟩ => by
    rw [List.mapM_cons] at h
    cases d with
    | int i =>
      cases q
      cases h2 : l.mapM (fun d => match d with
      | .int i => some i
      | _ => (none : Option Int)) with
      | none => simp [h2] at h
      | some ms =>
        simp [h2] at h
        subst h
        rw [e, ints_ok h2 rs]; rfl
    | _ => simp at h
end
end PF

/-! texts, isinstance, stores, the dealer -/
namespace PF
open PySem PySem.Spec PyProof.Rows
open L2
section
variable {X : Cx} {W : WX} {K : PySem.W.Frag} {mg : Str → Option Value}
/-! ### methods of texts -/
def upperD : D → Option Vl
  | .str s => if s.length ≤ big then some (.imm (.str (Txt.upper (mkS s)).cps.toList)) else none
  | _ => none
theorem pd_upper {e : Expr} {a : SE} {apos cpos : Pos} (ha : PEd X W e a) (hbase : attributeBase e "upper" X.env (eval e X.env) = eval e X.env := by rfl) (hline : (apos.endLine == cpos.line) = true := by rfl) : PEd X W (.Call (.Attribute e "upper" apos) [] [] cpos) (eUn upperD a) := by
  obtain ⟨te, a1, a2⟩ := ha
  refine ⟨_, pe_bm0 PySem.F.plainAttrs_str PySem.F.slot_str_upper PySem.F.type_str_upper mt_upper a1 hbase hline, sd_un (r := fun x H Q => tyV X.K "str" x H ∧ ∃ a, x = .str a ∧ ([] : List V) = [] ∧ a.length ≤ 5592405 ∧ Q (.str (Txt.upper a)) H) (fun H x u v Q rx e q => ?_) a2⟩
  unfold upperD at e
  split at e
  · split at e
    · rename_i s hl
      cases e; cases rx
      refine ⟨rfl, _, rfl, rfl, ?_, ?_⟩
      · rw [mkS_length]; exact Nat.le_trans hl (by decide)
      · have := q.imm (u := .str (mkS (Txt.upper (mkS s)).cps.toList)) rfl
        rw [mkS_cps] at this
        exact this
    · cases e
  · cases e
/-- a method of one argument, its object looked at ahead -/
def eM1 (ty : D → Bool) (f : D → D → Option Vl) (a b : SE) : SE := fun ρ => (a ρ).bind fun va ρ1 => match rd ρ1 va with
  | some d0 => if ty d0 then (b ρ1).bind fun vb ρ2 => match rd ρ2 va, rd ρ2 vb with
      | some x, some y => match f x y with
        | some v => .ok v ρ2
        | none => .fail
      | _, _ => .fail
    else .fail
  | none => .fail
theorem sd_m1 {T : String} {r : V → List V → Hp → VK → Prop} {ty : D → Bool} {f : D → D → Option Vl} {ta tb : TE} {a b : SE} (hty : ∀ H d u, RdR K H d u → ty d = true → tyV K T u H) (ho : OpD K (fun x y H Q => r x [y] H Q) f) (ha : SdE K mg W ta a) (hb : SdE K mg W tb b) :
    SdE K mg W (tBM K T r ta (tCons tb tNil)) (eM1 ty f a b) := by
  intro P σ H F ρ Q E h
  refine ha P σ H F ρ _ E ?_
  unfold eM1 at h
  cases ea : a ρ with
  | fail => rw [ea] at h; exact h
  | exc x ρ1 => rw [ea] at h; exact h
  | ok va ρ1 =>
    rw [ea] at h
    intro u1 H1 F1 S1 E1 R1 dj1 f1
    rw [Out.bind_ok] at h
    cases e0 : rd ρ1 va with
    | none => rw [e0] at h; exact h.elim
    | some d0 =>
      rw [e0] at h
      dsimp only at h
      split at h
      · rename_i ht
        refine ⟨hty _ _ _ (rd_ok E1 R1 e0) ht, ?_⟩
        refine hb P σ H1 F1 ρ1 _ E1 ?_
        cases eb : b ρ1 with
        | fail => rw [eb] at h; exact h
        | exc x ρ2 => rw [eb] at h; exact h.from f1
        | ok vb ρ2 =>
          rw [eb, Out.bind_ok] at h
          intro u2 H2 F2 S2 E2 R2 dj2 f2
          have R1' := R1.keep dj1 f2
          cases e1 : rd ρ2 va with
          | none => rw [e1] at h; exact h.elim
          | some x =>
            cases e2 : rd ρ2 vb with
            | none => rw [e1, e2] at h; exact h.elim
            | some y =>
              rw [e1, e2] at h
              cases e3 : f x y with
              | none => simp only [e3] at h; exact h.elim
              | some v =>
                simp only [e3] at h
                exact ho H2 x y u1 u2 v _ (rd_ok E2 R1' e1) (rd_ok E2 R2 e2) e3 (PostO.new E2 ((h.from f1).from f2))
      · exact h.elim
def isStrD : D → Bool
  | .str _ => true
  | _ => false
theorem isStr_ty : ∀ H d u, RdR K H d u → isStrD d = true → tyV K "str" u H := fun H d u r h => by
  cases d <;> first | (cases h; done) | (cases r; rfl)
def strsD : List D → Option (List (List Nat))
  | [] => some []
  | .str s :: l => (strsD l).map (s :: ·)
  | _ :: _ => none
def joinS (a : List Nat) (ys : List (List Nat)) : List Nat := (Txt.join (mkS a) (ys.map mkS)).cps.toList
def joinL (a : List Nat) (l : List D) : Option Vl := match strsD l with
  | some ys => if (ys.map (·.length)).sum + ys.length * a.length ≤ big then some (.imm (.str (joinS a ys))) else none
  | none => none
def joinD : D → D → Option Vl
  | .str a, .lst l => joinL a l
  | .str a, .tup l => joinL a l
  | _, _ => none
theorem strs_ok {H : Hp} : ∀ {l : List D} {vs : List V} {ys : List (List Nat)}, strsD l = some ys → RIs K H l vs → vs = (ys.map mkS).map V.str
  | [], _, _, h, r => by cases h; cases r; rfl
  | d :: l, _, ys, h, ⟨v, r, e, q, rs⟩ => by
    cases d with
    | str s =>
      unfold strsD at h
      cases h1 : strsD l with
      | none => rw [h1] at h; cases h
      | some ys' =>
        rw [h1] at h
        cases h; cases q
        rw [e, strs_ok h1 rs]; rfl
    | _ => cases h
theorem pd_join {e e2 : Expr} {a b : SE} {apos cpos : Pos} (ha : PEd X W e a) (hb : PEd X W e2 b) (hbase : attributeBase e "join" X.env (eval e X.env) = eval e X.env := by rfl)
    (hfew : ((backTo cpos (starEach [e2] X.env)).all (fun x => !x.1) && (backToKw cpos (keywordEach [] X.env)).all (fun x => x.1.isSome) && decide ([e2].length + ([] : List Keyword).length + (if ([] : List Keyword).isEmpty then 0 else 1) < 30)) = true := by rfl)
    (hline : (apos.endLine == cpos.line) = true := by rfl) (hse : starEach (e2 :: []) X.env = (false, eval e2 X.env) :: starEach [] X.env := by rfl) (hplain : (backTo cpos (starEach [] X.env)).any (·.1) = false := by rfl) :
    PEd X W (.Call (.Attribute e "join" apos) [e2] [] cpos) (eM1 isStrD joinD a b) := by
  obtain ⟨ta, a1, a2⟩ := ha
  obtain ⟨tb, b1, b2⟩ := hb
  refine ⟨_, pe_bm PySem.F.plainAttrs_str PySem.F.slot_str_join PySem.F.type_str_join mt_join a1 (pa_cons b1 pa_nil hse) hbase hfew hline hse hplain, sd_m1 isStr_ty (fun H x y u w v Q rx ry e q => ?_) a2 b2⟩
  have fin : ∀ {s : List Nat} {ys : List (List Nat)}, NewQ X.K H (.imm (.str (joinS s ys))) Q → Q (.str (Txt.join (mkS s) (ys.map mkS))) H := fun {s ys} q => by
    have := q.imm (u := .str (mkS (joinS s ys))) rfl
    rw [joinS, mkS_cps] at this
    exact this
  have sz : ∀ {s : List Nat} {ys : List (List Nat)}, (ys.map (·.length)).sum + ys.length * s.length ≤ big → (((ys.map mkS).map (·.length)).sum + (ys.map mkS).length * (mkS s).length ≤ 16777216) := fun {s ys} h => by
    have e1 : (ys.map mkS).map (·.length) = ys.map (·.length) := by rw [List.map_map]; exact List.map_congr_left fun a _ => mkS_length a
    rw [e1, List.length_map, mkS_length]
    exact Nat.le_trans h (by decide)
  unfold joinD at e
  split at e
  · rename_i s l
    unfold joinL at e
    split at e
    · rename_i ys hy
      split at e
      · rename_i hl
        cases e; cases rx
        obtain ⟨p, vs, rfl, h1, r1⟩ := ry
        have ev := strs_ok hy r1
        subst ev
        exact ⟨mkS s, p, ys.map mkS, rfl, rfl, .inl h1, sz hl, fin q⟩
      · cases e
    · cases e
  · rename_i s l
    unfold joinL at e
    split at e
    · rename_i ys hy
      split at e
      · rename_i hl
        cases e; cases rx
        obtain ⟨p, vs, rfl, h1, r1⟩ := ry
        have ev := strs_ok hy r1
        subst ev
        exact ⟨mkS s, p, ys.map mkS, rfl, rfl, .inr (SqT.of h1), sz hl, fin q⟩
      · cases e
    · cases e
  · cases e
/-! ### text * int -/
def timesD : D → D → Option Vl
  | .str s, .int n => if small62 n && (decide (n ≤ 1000) && decide (s.length ≤ 1000)) then some (.imm (.str (Txt.mul (mkS s) n).cps.toList)) else none
  | x, y => mulD x y
theorem op_mulS : OpR X (binaryOp .Mult) (fun x y H Q => ∃ z n, x = .str z ∧ y = .int n ∧ MulOk z n ∧ Q (.str (Txt.mul z n)) H) := by
  intro pins s σ H x y v u Q I rx ry h
  obtain ⟨z, n, rfl, rfl, ok, q⟩ := h
  obtain ⟨t, rfl⟩ := rx
  obtain ⟨t', rfl⟩ := ry
  exact SB.mul ok fun t' k => ⟨.str _, H, I.tok k, ⟨t', rfl⟩, q⟩
theorem op_timesD : ∃ r, OpR X (binaryOp .Mult) r ∧ OpD X.K r timesD := by
  obtain ⟨r0, h1, h2⟩ := op_mulD (X := X)
  refine ⟨_, PF.OpR.or op_mulS h1, fun H x y u w v Q rx ry e q => ?_⟩
  unfold timesD at e
  split at e
  · rename_i s n
    split at e
    · rename_i h
      rw [Bool.and_eq_true, Bool.and_eq_true, decide_eq_true_eq, decide_eq_true_eq] at h
      have h62 := small62_ok h.1
      cases e; cases rx; cases ry
      refine .inl ⟨_, n, rfl, rfl, mulOk_of 1000 1000 (by rw [mkS_length]; exact h.2.2) h.2.1 (by omega) (by decide) (by decide), ?_⟩
      have := q.imm (u := .str (mkS (Txt.mul (mkS s) n).cps.toList)) rfl
      rw [mkS_cps] at this
      exact this
    · cases e
  · exact .inr (h2 H x y u w v Q rx ry e q)
/-! ### -x -/
def negD : D → Option Vl
  | .int i => some (.imm (.int (-i)))
  | _ => none
theorem pd_neg {e : Expr} {a : SE} {pos : Pos} (h : PEd X W e a) : PEd X W (.UnaryOp .USub e pos) (eUn negD a) := by
  obtain ⟨te, h1, h2⟩ := h
  refine ⟨_, pe_un un_neg h1, sd_un (r := rU fun i => .int (-i)) (fun H x u v Q rx e q => ?_) h2⟩
  unfold negD at e
  split at e
  · cases e; cases rx; exact ⟨_, rfl, q.imm rfl⟩
  · cases e
/-! ### isinstance -/
def tyN : D → Option String
  | .non => some "NoneType"
  | .bl _ => some "bool"
  | .int _ => some "int"
  | .str _ => some "str"
  | .tup _ => some "tuple"
  | .lst _ => some "list"
  | .dct _ => some "dict"
  | _ => none
theorem tyN_ok {H : Hp} {d : D} {u : V} {a : String} (r : RdR K H d u) (h : tyN d = some a) : TyX K H u (.type a) := by
  cases d with
  | non => cases h; cases r; exact .base .non
  | bl b => cases h; cases r; exact .base (.bl b)
  | int i => cases h; cases r; exact .base (.int i)
  | str s => cases h; cases r; exact .base (.str _)
  | tup l => cases h; obtain ⟨p, vs, rfl, h1, _⟩ := r; exact .base (.tup h1)
  | lst l =>
    cases h
    obtain ⟨p, vs, rfl, h1, _⟩ := r
    rcases h1 with (h1 | ⟨o, h1⟩) | ⟨o, its, n, h1, h2, _⟩
    · exact .base (.lst h1)
    · exact .base (.frz h1)
    · exact .kList h1 h2
  | dct l =>
    cases h
    obtain ⟨p, vs, rfl, h1, _⟩ := r
    rcases h1 with h1 | ⟨o, h1⟩
    · exact .base (.dK h1)
    · exact .fDict h1
  | dcT l => cases h
  | deal _ _ _ => cases h
def isiD (T : String) (d : D) : Option Vl := match tyN d with
  | some a => match kitB a T with
    | some b => some (.imm (.bl b))
    | none => none
  | none => none
theorem pd_isi (T : String) {y : Str} {e : Expr} {a : SE} {p p2 pos : Pos} (hm : X.mg "isinstance" = none) (hmT : X.mg y = none) (hvT : bootBuiltins y = some (.type T)) (ha : PEd X W e a) (hv : bootBuiltins "isinstance" = some (.builtin "isinstance") := by rfl)
    (hg : Gl X "isinstance" := by rfl) (hgT : Gl X y := by rfl) (hn : y ≠ "__name__" := by decide) (hd : (y == ("__debug__" : Str)) = false := by decide)
    (hs : starEach (e :: [.Name y p2]) X.env = (false, eval e X.env) :: starEach [.Name y p2] X.env := by rfl) (hpl : (backTo pos (starEach [.Name y p2] X.env)).any (·.1) = false := by rfl) :
    PEd X W (.Call (.Name "isinstance" p) [e, .Name y p2] [] pos) (eUn (isiD T) a) := by
  obtain ⟨te, a1, a2⟩ := ha
  have hT : PE X (.Name y p2) (tC (.ty T)) := pe_bltn hgT hmT hvT rfl hn hd
  refine ⟨_, pe_callB call_isi hg hm hv (pa_cons a1 (pa_cons hT pa_nil) hs) (by decide) (by decide) hs hpl, sd_un (r := fun u H Q => rIsi X.K [u, .ty T] H Q) (fun H x u v Q rx e q => ?_) a2⟩
  unfold isiD at e
  split at e
  · rename_i a' ha'
    split at e
    · rename_i b hb
      cases e
      exact ⟨u, .ty T, .type a', .type T, b, rfl, .ty T, tyN_ok rx ha', kit_ty hb, q.imm rfl⟩
    · cases e
  · cases e
/-! ### xs[::-1] -/
def revsD : D → Option Vl
  | .lst l => some (.own (.lst l.reverse))
  | _ => none
theorem pd_revs {e : Expr} {a : SE} {k : Nat} {p1 p2 p3 pos : Pos} (h : PEd X W e a) : PEd X W (.Subscript e (.Slice none none (some (.UnaryOp .USub (.Constant (.int 1) k p1) p2)) p3) pos) (eUn revsD a) := by
  obtain ⟨te, h1, h2⟩ := h
  refine ⟨_, pe_revL h1, sd_un (r := fun x H Q => ∃ a xs, x = .ref a ∧ SqL X.K H a xs ∧ ∀ p, H p = none → Q (.ref p) (upd H p (.lst xs.reverse))) (fun H x u v Q rx e q => ?_) h2⟩
  unfold revsD at e
  split at e
  · cases e
    obtain ⟨p, vs, rfl, h1, r1⟩ := rx
    exact ⟨p, vs, rfl, h1, fun p hp => q.lst r1.rev hp⟩
  · cases e
/-! ### all, any -/
def blsD : List D → Option (List Bool)
  | [] => some []
  | .bl b :: l => (blsD l).map (b :: ·)
  | _ :: _ => none
theorem bls_ok {H : Hp} : ∀ {l : List D} {vs : List V} {ys : List Bool}, blsD l = some ys → RIs K H l vs → vs = ys.map V.bl
  | [], _, _, h, r => by cases h; cases r; rfl
  | d :: l, _, ys, h, ⟨v, r, e, q, rs⟩ => by
    cases d with
    | bl s =>
      unfold blsD at h
      cases h1 : blsD l with
      | none => rw [h1] at h; cases h
      | some ys' =>
        rw [h1] at h
        cases h; cases q
        rw [e, bls_ok h1 rs]; rfl
    | _ => cases h
def allD : D → Option Vl
  | .lst l => match blsD l with
    | some bs => some (.imm (.bl (bs.all id)))
    | none => none
  | _ => none
def anyD : D → Option Vl
  | .lst l => match blsD l with
    | some bs => some (.imm (.bl (bs.any id)))
    | none => none
  | _ => none
theorem call_allD (hc : X.calm = true) : ∃ r, CallR X (.builtin "all") r ∧ UnD X.K (fun u H Q => r [u] H Q) allD := by
  refine ⟨_, cr_all hc, fun H x u v Q rx e q => ?_⟩
  unfold allD at e
  split at e
  · split at e
    · rename_i bs hb
      cases e
      obtain ⟨p, vs, rfl, h1, r1⟩ := rx
      have ev := bls_ok hb r1
      subst ev
      exact ⟨p, bs, rfl, h1, q.imm rfl⟩
    · cases e
  · cases e
theorem call_anyD (hc : X.calm = true) : ∃ r, CallR X (.builtin "any") r ∧ UnD X.K (fun u H Q => r [u] H Q) anyD := by
  refine ⟨_, cr_any hc, fun H x u v Q rx e q => ?_⟩
  unfold anyD at e
  split at e
  · split at e
    · rename_i bs hb
      cases e
      obtain ⟨p, vs, rfl, h1, r1⟩ := rx
      have ev := bls_ok hb r1
      subst ev
      exact ⟨p, bs, rfl, h1, q.imm rfl⟩
    · cases e
  · cases e
/-! ### a def without arguments -/
theorem pd_call0 {k k' : Nat} {g : List Ar → FOut} {x : Str} {f : Addr} {fd : FuncData} {p pos : Pos} (C : Ctx X W k') (G : FnOk X.prog X.w X.K X.mg X.base (L2.CX X.prog X.w) k f fd [] (fsp X.K X.mg 0 g))
    (hm : X.mg x = some (.ref f)) (hkp : PySem.W.keepIn X.K (.ref f) = true) (hb : Binds X.K fd [] []) (hn : ∀ as, g as ≠ .fail → as.length = 0) (hk : k ≤ k' := by decide) (hg : Gl X x := by rfl) (hdb : (x == ("__debug__" : Str)) = false := by decide) :
    PEd X W (.Call (.Name x p) [] [] pos) (eCall g aNil) := by
  refine ⟨tCallS (fsp X.K X.mg 0 g) (WE W) tNil, ⟨fun pins s σ H Q I h => ?_⟩, sd_call hn sa_nil⟩
  refine wpAny_Call_Name_kw (ld_glob I hg hm ?_ hdb)
  exact PySem.W.callWith_K0 I.kIn hkp (run_fnS (us := []) G (C.room.mono hk) hb (passAt C.tk σ) I .nil h)
end
end PF

/-! stores, displays, the dealer -/
namespace PF
open PySem PySem.Spec PyProof.Rows
open L2
section
variable {X : Cx} {W : WX} {K : PySem.W.Frag} {mg : Str → Option Value}
/-! ### x[k] = v -/
def putA {α : Type} [DecidableEq α] (l : List (α × D)) (k : α) (d : D) : List (α × D) := if (l.any fun kv => decide (kv.1 = k)) = true then l.map (fun kv => if kv.1 = k then (kv.1, d) else kv) else l ++ [(k, d)]
def kSeed : List Nat := [115, 101, 101, 100]
def kNumber : List Nat := [110, 117, 109, 98, 101, 114]
def kLeft : List Nat := [108, 101, 102, 116]
def putD : D → D → D → Option D
  | .lst l, .int k, d => match ixN l.length k with
    | some j => some (.lst (l.set j d))
    | none => none
  | .dct l, k, d => match keyD k with
    | some k => if l.length < big then some (.dct (putA l k d)) else none
    | none => none
  | .dcT l, .tup ks, d => match keysD ks with
    | some k => if l.length < big then some (.dcT (putA l k d)) else none
    | none => none
  | .deal sd nm lf, .str s, .int j => if s = kSeed then some (.deal j nm lf) else if s = kNumber then some (.deal sd j lf) else none
  | _, _, _ => none
theorem RIs.set {H : Hp} {d : D} {v : V} (r : RI K H d v) : ∀ {l : List D} {vs : List V} (j : Nat), RIs K H l vs → RIs K H (l.set j d) (vs.set j v)
  | [], _, _, h => by cases h; exact rfl
  | _ :: _, _, 0, ⟨_, w, e, _, h⟩ => ⟨v, w, by rw [e]; rfl, r, h⟩
  | _ :: _, _, j + 1, ⟨u, w, e, q, h⟩ => ⟨u, w.set j v, by rw [e]; rfl, q, RIs.set r j h⟩
theorem RIk.any {H : Hp} (k : DK) : ∀ {l : List (DK × D)} {vs : List (Key × V)}, RIk K H l vs → (vs.any fun kv => decide (kv.1 = toK k)) = (l.any fun kv => decide (kv.1 = k))
  | [], _, h => by cases h; rfl
  | (a, d) :: l, _, ⟨v, r, e, q, h⟩ => by
    rw [e, List.any_cons, List.any_cons, RIk.any k h]
    have : decide (toK a = toK k) = decide (a = k) := by
      by_cases z : a = k
      · subst z; simp
      · have z' : toK a ≠ toK k := fun y => z (toK_inj y)
        simp [z, z']
    rw [this]
theorem RIk.mapP {H : Hp} {k : DK} {d : D} {v : V} (r : RI K H d v) : ∀ {l : List (DK × D)} {vs : List (Key × V)}, RIk K H l vs → RIk K H (l.map fun kv => if kv.1 = k then (kv.1, d) else kv) (vs.map fun kv => if kv.1 = toK k then (kv.1, v) else kv)
  | [], _, h => by cases h; exact rfl
  | (a, d0) :: l, _, ⟨u, w, e, q, h⟩ => by
    rw [e, List.map_cons, List.map_cons]
    by_cases z : a = k
    · subst z
      rw [if_pos rfl, if_pos rfl]
      exact ⟨v, _, rfl, r, RIk.mapP r h⟩
    · have z' : toK a ≠ toK k := fun y => z (toK_inj y)
      rw [if_neg z, if_neg z']
      exact ⟨u, _, rfl, q, RIk.mapP r h⟩
theorem RIk.app {H : Hp} : ∀ {l m : List (DK × D)} {vs ws : List (Key × V)}, RIk K H l vs → RIk K H m ws → RIk K H (l ++ m) (vs ++ ws)
  | [], _, _, _, h, k => by cases h; exact k
  | (_, _) :: _, _, _, _, ⟨v, r, e, q, h⟩, k => ⟨v, _, by rw [e]; rfl, q, RIk.app h k⟩
theorem RIk.put {H : Hp} {k : DK} {d : D} {v : V} (r : RI K H d v) {l : List (DK × D)} {vs : List (Key × V)} (h : RIk K H l vs) : RIk K H (putA l k d) (putK vs (toK k) v) := by
  unfold putA putK
  rw [RIk.any k h]
  split
  · exact RIk.mapP r h
  · exact RIk.app h ⟨v, [], rfl, r, rfl⟩
theorem RIt.any {H : Hp} (k : List DK) : ∀ {l : List (List DK × D)} {vs : List (List Key × V)}, RIt K H l vs → (vs.any fun kv => decide (kv.1 = k.map toK)) = (l.any fun kv => decide (kv.1 = k))
  | [], _, h => by cases h; rfl
  | (a, d) :: l, _, ⟨v, r, e, q, h⟩ => by
    rw [e, List.any_cons, List.any_cons, RIt.any k h]
    have : decide (a.map toK = k.map toK) = decide (a = k) := by
      by_cases z : a = k
      · subst z; simp
      · have z' : a.map toK ≠ k.map toK := fun y => z (toKs_inj y)
        simp only [z, z']
    rw [this]
theorem RIt.mapP {H : Hp} {k : List DK} {d : D} {v : V} (r : RI K H d v) : ∀ {l : List (List DK × D)} {vs : List (List Key × V)}, RIt K H l vs → RIt K H (l.map fun kv => if kv.1 = k then (kv.1, d) else kv) (vs.map fun kv => if kv.1 = k.map toK then (kv.1, v) else kv)
  | [], _, h => by cases h; exact rfl
  | (a, d0) :: l, _, ⟨u, w, e, q, h⟩ => by
    rw [e, List.map_cons, List.map_cons]
    by_cases z : a = k
    · subst z
      rw [if_pos rfl, if_pos rfl]
      exact ⟨v, _, rfl, r, RIt.mapP r h⟩
    · have z' : a.map toK ≠ k.map toK := fun y => z (toKs_inj y)
      rw [if_neg z, if_neg z']
      exact ⟨u, _, rfl, q, RIt.mapP r h⟩
theorem RIt.app {H : Hp} : ∀ {l m : List (List DK × D)} {vs ws : List (List Key × V)}, RIt K H l vs → RIt K H m ws → RIt K H (l ++ m) (vs ++ ws)
  | [], _, _, _, h, k => by cases h; exact k
  | (_, _) :: _, _, _, _, ⟨v, r, e, q, h⟩, k => ⟨v, _, by rw [e]; rfl, q, RIt.app h k⟩
theorem RIt.put {H : Hp} {k : List DK} {d : D} {v : V} (r : RI K H d v) {l : List (List DK × D)} {vs : List (List Key × V)} (h : RIt K H l vs) : RIt K H (putA l k d) (putK vs (k.map toK) v) := by
  unfold putA putK
  rw [RIt.any k h]
  split
  · exact RIt.mapP r h
  · exact RIt.app h ⟨v, [], rfl, r, rfl⟩
theorem RIk.length {H : Hp} : ∀ {l : List (DK × D)} {vs : List (Key × V)}, RIk K H l vs → vs.length = l.length
  | [], _, h => by cases h; rfl
  | (_, _) :: _, _, ⟨_, _, e, _, h⟩ => by rw [e, List.length_cons, List.length_cons, RIk.length h]
theorem RIt.length {H : Hp} : ∀ {l : List (List DK × D)} {vs : List (List Key × V)}, RIt K H l vs → vs.length = l.length
  | [], _, h => by cases h; rfl
  | (_, _) :: _, _, ⟨_, _, e, _, h⟩ => by rw [e, List.length_cons, List.length_cons, RIt.length h]
theorem ext_upd {H : Hp} {p : Addr} {o o' : HO} (h : H p = some o) (m : Mut (some o)) : Ext H (upd H p o') :=
  let z := ne_mut h m
  ⟨fun b xs q => by rw [upd_ne (z.1 b xs q)]; exact q, fun b o u q => by rw [upd_ne (z.2 b o u q)]; exact q⟩
theorem ks_nl : mkS kSeed ≠ mkS kNumber := fun z => by have := mkS_inj z; simp [kSeed, kNumber] at this
theorem ks_nt : mkS kSeed ≠ mkS kLeft := fun z => by have := mkS_inj z; simp [kSeed, kLeft] at this
theorem kn_nt : mkS kNumber ≠ mkS kLeft := fun z => by have := mkS_inj z; simp [kNumber, kLeft] at this
theorem dealK_eq (sd nm : Int) (b : Addr) : dealK sd nm b = [(.inr (mkS kSeed), .int sd), (.inr (mkS kNumber), .int nm), (.inr (mkS kLeft), .ref b)] := rfl
theorem put_ok {H : Hp} {S : FS} {x kd d x' : D} {v y w : V} (ox : OwnR K H S x v) (ry : RdR K H kd y) (rw' : RI K H d w) (e : putD x kd d = some x') :
    ∃ p o o', v = .ref p ∧ S p ∧ H p = some o ∧ Mut (some o) ∧ OwnR K (upd H p o') S x' (.ref p) ∧ ∀ Q : Hp → Prop, Q (upd H p o') → rSetL (.ref p) y w H Q ∨ rSetD (.ref p) y w H Q := by
  unfold putD at e
  split at e
  · rename_i l k
    split at e
    · rename_i j hj
      cases e; cases ry
      obtain ⟨p, vs, rfl, s, hp, rs⟩ := ox
      refine ⟨p, _, .lst (vs.set j w), rfl, s, hp, trivial, ⟨p, _, rfl, s, upd_same, ?_⟩, fun Q q => .inl ⟨p, vs, k, j, rfl, rfl, hp, by rw [rs.length]; exact hj, q⟩⟩
      have ex := ext_upd (o' := .lst (vs.set j w)) hp trivial
      exact RIs.set (RI.mono ex rw') j (RIs.mono ex rs)
    · cases e
  · rename_i l
    split at e
    · rename_i k hk
      split at e
      · rename_i hl
        cases e
        obtain ⟨p, vs, rfl, s, hp, rs⟩ := ox
        have ex := ext_upd (o' := .dK (putK vs (toK k) w)) hp trivial
        refine ⟨p, _, .dK (putK vs (toK k) w), rfl, s, hp, trivial, ⟨p, _, rfl, s, upd_same, RIk.put (RI.mono ex rw') (RIk.mono ex rs)⟩, fun Q q => .inr ⟨p, _, rfl, .inl ⟨vs, toK k, hp, keyD_ok hk ry, ?_, rfl⟩, q⟩⟩
        rw [rs.length]; exact Nat.lt_of_lt_of_le hl (big_line (Nat.le_refl _))
      · cases e
    · cases e
  · rename_i l ks
    split at e
    · rename_i k hk
      split at e
      · rename_i hl
        cases e
        obtain ⟨p, vs, rfl, s, hp, rs⟩ := ox
        obtain ⟨b, ws, rfl, hb, r2⟩ := ry
        have ex := ext_upd (o' := .dT (putK vs (k.map toK) w)) hp trivial
        refine ⟨p, _, .dT (putK vs (k.map toK) w), rfl, s, hp, trivial, ⟨p, _, rfl, s, upd_same, RIt.put (RI.mono ex rw') (RIt.mono ex rs)⟩, fun Q q => .inr ⟨p, _, rfl, .inr ⟨vs, k.map toK, b, hp, rfl, by rw [hb, keysD_ok hk r2], ?_, rfl⟩, q⟩⟩
        rw [rs.length]; exact Nat.lt_of_lt_of_le hl (big_line (Nat.le_refl _))
      · cases e
    · cases e
  · rename_i sd nm lf s j
    obtain ⟨p, b, rfl, s1, s2, hp, hb⟩ := ox
    have nb : b ≠ p := fun z => by rw [z, hp] at hb; cases hb
    cases ry; cases rw'
    have h3 : (dealK sd nm b).length < sizeLine := by show 3 < sizeLine; rw [sizeLine_eq]; decide
    split at e
    · rename_i hs
      cases e
      subst hs
      have ep : putK (dealK sd nm b) (.inr (mkS kSeed)) (.int j) = dealK j nm b := by
        rw [dealK_eq, dealK_eq]
        simp [putK, ks_nl.symm, ks_nt.symm]
      exact ⟨p, _, .dK (dealK j nm b), rfl, s1, hp, trivial, ⟨p, b, rfl, s1, s2, upd_same, by rw [upd_ne nb]; exact hb⟩, fun Q q => .inr ⟨p, _, rfl, .inl ⟨_, .inr (mkS kSeed), hp, rfl, h3, by rw [ep]⟩, q⟩⟩
    · split at e
      · rename_i hs
        cases e
        subst hs
        have ep : putK (dealK sd nm b) (.inr (mkS kNumber)) (.int j) = dealK sd j b := by
          rw [dealK_eq, dealK_eq]
          simp [putK, ks_nl, kn_nt.symm]
        exact ⟨p, _, .dK (dealK sd j b), rfl, s1, hp, trivial, ⟨p, b, rfl, s1, s2, upd_same, by rw [upd_ne nb]; exact hb⟩, fun Q q => .inr ⟨p, _, rfl, .inl ⟨_, .inr (mkS kNumber), hp, rfl, h3, by rw [ep]⟩, q⟩⟩
      · cases e
  · cases e
def sPut (i : Nat) (k v : SE) : SS := fun ρ => match v ρ with
  | .ok (.imm d) ρ1 => match owS i ρ1 with
    | some _ => match k ρ1 with
      | .ok kv ρ2 => match rd ρ2 kv, owS i ρ2 with
        | some kd, some x => match putD x kd d with
          | some x' => match reS i x' ρ2 with
            | some ρ3 => .nx ρ3
            | none => .fail
          | none => .fail
        | _, _ => .fail
      | .exc x ρ2 => .exc x ρ2
      | .fail => .fail
    | none => .fail
  | .exc x ρ1 => .exc x ρ1
  | _ => .fail
theorem PSet.or {r r' : TSet} (h : PSet X r) (h' : PSet X r') : PSet X (fun o i v H Q => r o i v H Q ∨ r' o i v H Q) := by
  intro pins s σ H o i v ov iv u Q I ro ri rv q
  rcases q with q | q
  · exact h pins s σ H o i v ov iv u Q I ro ri rv q
  · exact h' pins s σ H o i v ov iv u Q I ro ri rv q
theorem sd_put {tk tv : TE} {k v : SE} (i : Nat) (hk : SdE K mg W tk k) (hv : SdE K mg W tv v) : SdS K mg W (tAsg tv (gSub (tVar i) tk (fun o i v H Q => rSetL o i v H Q ∨ rSetD o i v H Q))) (sPut i k v) := by
  intro P σ H F ρ D0 E h
  refine hv P σ H F ρ _ E ?_
  unfold sPut at h
  cases ev : v ρ with
  | fail => rw [ev] at h; exact h
  | exc x ρ1 => rw [ev] at h; exact fun cls d H1 F1 E1 r f => h cls d σ H1 F1 E1 r f
  | ok va ρ1 =>
    rw [ev] at h
    intro u1 H1 F1 S1 E1 R1 dj1 f1
    cases va with
    | own d => exact h.elim
    | ref j => exact h.elim
    | imm d =>
      dsimp only at h
      split at h
      · rename_i x0 q0
        obtain ⟨hi, vx, hvx, r0⟩ := owS_ok E1 q0
        refine ⟨vx, hvx, ?_⟩
        refine hk P σ H1 F1 ρ1 _ E1 ?_
        cases ek : k ρ1 with
        | fail => rw [ek] at h; exact h
        | exc x ρ2 => rw [ek] at h; exact fun cls d H2 F2 E2 r f => (h.from f1) cls d σ H2 F2 E2 r f
        | ok kv ρ2 =>
          rw [ek] at h
          intro u2 H2 F2 S2 E2 R2 dj2 f2
          dsimp only at h
          split at h
          · rename_i kd x e1 e2
            cases e3 : putD x kd d with
            | none => simp only [e3] at h; exact h.elim
            | some x' =>
              simp only [e3] at h
              cases e4 : reS i x' ρ2 with
              | none => simp only [e4] at h; exact h.elim
              | some ρ3 =>
                simp only [e4] at h
                obtain ⟨hi2, v2, hv2, r2⟩ := owS_ok E2 e2
                rw [hvx] at hv2
                cases hv2
                obtain ⟨p, o, o', ep, sp, hp, mu, ow, fin⟩ := put_ok r2 (rd_ok E2 R2 e1) (RI.mono f2.ext R1) e3
                subst ep
                refine fin _ ?_
                obtain ⟨n1, n2⟩ := ne_mut hp mu
                have fr : Frm (PF.Un F2) (PF.Un F2) H2 (upd H2 p o') := Frm.upd1 ⟨i, sp⟩ (by rw [hp]; exact fun z => nomatch z) n1 n2
                exact ((h.from f1).from f2) σ _ F2 (reS_ok E2 e4 sp n1 n2 hvx ow) fr
          · exact h.elim
      · exact h.elim
theorem psd_put {k : Nat} (i : Nat) {x : Str} {ek ev : Expr} {sk sv : SE} {p p2 pos : Pos} (C : Ctx X W k) (hk : PEd X W ek sk) (hv : PEd X W ev sv) (hN : X.N[i]? = some x := by rfl) (hvs : Vis X.env.scope x := by first | exact Or.inl rfl | exact Or.inr (Or.inl rfl) | exact Or.inr (Or.inr rfl))
    (hd : (x == ("__debug__" : Str)) = false := by decide) (hcd : (x == ("__classdict__" : Str)) = false := by decide)
    (ha : ∀ v, assign (.Subscript (.Name x p) ek p2) X.env v = (do
      let ov ← holding [v] (eval (.Name x p) X.env)
      let iv ← holding [v, ov] (eval ek X.env)
      standAt p2
      holding [v, ov, iv] (setItem ov iv v)
      release [v, ov, iv] []) := by intro _; rfl) (hs : swapsWithSole [.Subscript (.Name x p) ek p2] ev pos.line X.env = pure false := by rfl) (hw : swappedStores [.Subscript (.Name x p) ek p2] ev X.env = pure none := by rfl)
    (h1 : (assignEach [.Subscript (.Name x p) ek p2] X.env).map (·.2) = [assign (.Subscript (.Name x p) ek p2) X.env] := by rfl) : PSd X W (.Assign [.Subscript (.Name x p) ek p2] ev pos) (sPut i sk sv) := by
  obtain ⟨tk, k1, k2⟩ := hk
  obtain ⟨tv, v1, v2⟩ := hv
  exact ⟨_, ps_asg v1 (pg_sub (pe_var hN hvs hd hcd) k1 (PSet.or set_list (set_dict C.u1)) ha) hs hw h1, sd_put i k2 v2⟩

/-! ### the dealer's display -/
theorem Frm.add {U U' T : FS} {H H' : Hp} (f : Frm U U' H H') : Frm (fun a => U a ∨ T a) (fun a => U' a ∨ T a) H H' where
  keep := fun b o n q => f.keep b o (fun z => n (.inl z)) q
  ext := f.ext
  dom := f.dom
  sub := fun b z => z.elim (fun z => (f.sub b z).imp .inl id) fun z => .inl (.inr z)
theorem sd_deal {ta tb tc : TE} {a b c : SE} (ha : SdE K mg W ta a) (hb : SdE K mg W tb b) (hc : SdE K mg W tc c) :
    SdE K mg W (tDisp [(tC (.str (mkS kSeed)), ta), (tC (.str (mkS kNumber)), tb), (tC (.str (mkS kLeft)), tc)]) (eDeal a b c) := by
  intro P σ H F ρ Q E h p hp
  have g0 : Grow (fun a => a = p) H (upd H p (.dK [])) := ⟨fun b o e => by rw [upd_ne (ne_of_none e hp)]; exact e, fun a z => z ▸ hp⟩
  have E0 := E.grow g0
  have f0 : Frm (PF.Un F) (fun a => PF.Un F a ∨ a = p) H (upd H p (.dK [])) := Frm.of_grow g0
  have np0 : ¬ PF.Un F p := fun ⟨i, z⟩ => E.dom i p z hp
  have hp0 : (upd H p (.dK [])) p = some (.dK []) := upd_same
  refine ha P σ _ F ρ _ E0 ?_
  unfold eDeal at h
  cases ea : a ρ with
  | fail => rw [ea] at h; exact h
  | exc x ρ1 => rw [ea] at h; exact h.from f0
  | ok va ρ1 =>
    rw [ea, Out.bind_ok] at h
    intro u1 H1 F1 S1 E1 R1 dj1 f1
    have np1 : ¬ PF.Un F1 p := fun z => (f1.sub p (.inl z)).elim np0 (fun z => by rw [hp0] at z; cases z)
    have hp1 : H1 p = some (.dK []) := f1.keep p _ np0 hp0
    have f01 := f0.step (F1 := F) (S1 := fun a => a = p) f1
    refine hb P σ H1 F1 ρ1 _ E1 ?_
    cases eb : b ρ1 with
    | fail => rw [eb] at h; exact h
    | exc x ρ2 => rw [eb] at h; exact h.from f01
    | ok vb ρ2 =>
      rw [eb, Out.bind_ok] at h
      intro u2 H2 F2 S2 E2 R2 dj2 f2
      have np2 : ¬ PF.Un F2 p := fun z => (f2.sub p (.inl z)).elim np1 (fun z => by rw [hp1] at z; cases z)
      have hp2 : H2 p = some (.dK []) := f2.keep p _ np1 hp1
      have f02 := f01.step (F1 := F1) (S1 := S1) f2
      refine hc P σ H2 F2 ρ2 _ E2 ?_
      cases ec : c ρ2 with
      | fail => rw [ec] at h; exact h
      | exc x ρ3 => rw [ec] at h; exact h.from f02
      | ok vc ρ3 =>
        rw [ec, Out.bind_ok] at h
        intro u3 H3 F3 S3 E3 R3 dj3 f3
        have np3 : ¬ PF.Un F3 p := fun z => (f3.sub p (.inl z)).elim np2 (fun z => by rw [hp2] at z; cases z)
        have ns3 : ¬ S3 p := fun z => (f3.sub p (.inr z)).elim np2 (fun z => by rw [hp2] at z; cases z)
        have hp3 : H3 p = some (.dK []) := f3.keep p _ np2 hp2
        split at h
        · rename_i sd nm l
          split at h
          · rename_i lf hlf
            cases R1; cases R2
            obtain ⟨⟨q, vs, eq', sq, hq, rs⟩, dm3⟩ := R3
            subst eq'
            have ev := ints_ok hlf rs
            subst ev
            have nqp : q ≠ p := fun z => ns3 (z ▸ sq)
            refine ⟨hp3, [(.inr (mkS kSeed), .int sd), (.inr (mkS kNumber), .int nm), (.inr (mkS kLeft), .ref q)], rfl, (by show 3 ≤ 15; decide), ?_⟩
            have em : mergeK [] [(Sum.inr (mkS kSeed), V.int sd), (.inr (mkS kNumber), .int nm), (.inr (mkS kLeft), .ref q)] = dealK sd nm q := by
              rw [dealK_eq]
              simp [mergeK, putK, ks_nl, ks_nt, kn_nt]
            rw [em]
            obtain ⟨n1, n2⟩ := ne_mut hp3 trivial
            have ex := ext_upd (o' := .dK (dealK sd nm q)) hp3 trivial
            have dm : ∀ b, H3 b ≠ none → (upd H3 p (.dK (dealK sd nm q))) b ≠ none := fun b z => by
              by_cases e : b = p
              · rw [e, upd_same]; exact fun z => nomatch z
              · rw [upd_ne e]; exact z
            have fA : Frm (PF.Un F) (fun a => (PF.Un F3 a ∨ S3 a) ∨ a = p) H H3 := by
              refine f0.trans ?_
              have fB : Frm (PF.Un F) (fun a => PF.Un F3 a ∨ S3 a) (upd H p (.dK [])) H3 := ((f1.step (F1 := F1) f2).step (F1 := F2) f3)
              exact fB.add
            have fC : Frm (fun a => (PF.Un F3 a ∨ S3 a) ∨ a = p) (fun a => (PF.Un F3 a ∨ S3 a) ∨ a = p) H3 (upd H3 p (.dK (dealK sd nm q))) := Frm.upd1 (.inr rfl) (by rw [hp3]; exact fun z => nomatch z) n1 n2
            refine h (.ref p) _ F3 (fun a => S3 a ∨ a = p) ?_ ⟨⟨p, q, rfl, .inr rfl, .inl sq, upd_same, by rw [upd_ne nqp]; exact hq⟩, fun a z => ?_⟩ ?_ ?_
            · refine E3.keep (fun b o u e => ?_) ex dm
              have : b ≠ p := fun z => np3 (z ▸ u)
              rw [upd_ne this]; exact e
            · rcases z with z | z
              · exact dm a (dm3 a z)
              · rw [z, upd_same]; exact fun z => nomatch z
            · intro i a z1 z2
              rcases z2 with z2 | z2
              · exact dj3 i a z1 z2
              · exact np3 ⟨i, z2 ▸ z1⟩
            · exact (fA.trans fC).less fun b z => by
                rcases z with z | z | z
                · exact .inl (.inl z)
                · exact .inl (.inr z)
                · exact .inr z
          · exact h.elim
        · exact h.elim
theorem pd_deal {ea eb ec : Expr} {a b c : SE} {j1 j2 j3 : Nat} {p1 p2 p3 pos : Pos} (ha : PEd X W ea a) (hb : PEd X W eb b) (hc : PEd X W ec c) :
    PEd X W (.Dict [some (.Constant (.str "seed") j1 p1), some (.Constant (.str "number") j2 p2), some (.Constant (.str "left") j3 p3)] [ea, eb, ec] pos) (eDeal a b c) := by
  obtain ⟨ta, a1, a2⟩ := ha
  obtain ⟨tb, b1, b2⟩ := hb
  obtain ⟨tc, c1, c2⟩ := hc
  have k1 : ("seed" : Str) = mkS kSeed := by decide +kernel
  have k2 : ("number" : Str) = mkS kNumber := by decide +kernel
  have k3 : ("left" : Str) = mkS kLeft := by decide +kernel
  have r := pe_disp (X := X) (pos := pos) (pps_cons (pe_str (x := "seed") (j := j1) (pos := p1)) a1 (pps_cons (pe_str (x := "number") (j := j2) (pos := p2)) b1 (pps_cons (pe_str (x := "left") (j := j3) (pos := p3)) c1 pps_nil))) rfl rfl (fun z => nomatch z) (by show 3 ≤ 15; decide)
  refine ⟨_, r, ?_⟩
  rw [k1, k2, k3]
  exact sd_deal a2 b2 c2
/-! ### what is left of the dealer's great numbers -/
def eLenL (i : Nat) : SE := fun ρ => match owS i ρ with
  | some (.deal _ _ lf) => .ok (.imm (.int lf.length)) ρ
  | _ => .fail
theorem pd_lenL {k : Nat} (i : Nat) {x : Str} {j : Nat} {p p1 p2 p3 pos : Pos} (C : Ctx X W k) (hm : X.mg "len" = none) (hN : X.N[i]? = some x := by rfl) (hvs : Vis X.env.scope x := by first | exact Or.inl rfl | exact Or.inr (Or.inl rfl) | exact Or.inr (Or.inr rfl))
    (hd : (x == ("__debug__" : Str)) = false := by decide) (hcd : (x == ("__classdict__" : Str)) = false := by decide) (hg : Gl X "len" := by rfl) (hs : starEach (.Subscript (.Name x p1) (.Constant (.str "left") j p2) p3 :: []) X.env = (false, eval (.Subscript (.Name x p1) (.Constant (.str "left") j p2) p3) X.env) :: starEach [] X.env := by rfl)
    (hpl : (backTo pos (starEach [] X.env)).any (·.1) = false := by rfl) : PEd X W (.Call (.Name "len" p) [.Subscript (.Name x p1) (.Constant (.str "left") j p2) p3] [] pos) (eLenL i) := by
  refine ⟨_, pe_callB call_len hg hm PySem.boot_len (pa_cons (pe_dget C.u1 (pe_var hN hvs hd hcd) pe_str (by exact fun _ _ => rfl)) pa_nil hs) (by decide) (by decide) hs hpl, ?_⟩
  intro P σ H F ρ Q E h
  unfold eLenL at h
  split at h
  · rename_i sd nm lf q0
    obtain ⟨hi, v, hv, p, q, ev, s1, s2, hp, hq⟩ := owS_ok E q0
    subst ev
    have k3 : ("left" : Str) = mkS kLeft := by decide +kernel
    refine ⟨.ref p, hv, p, .ref q, rfl, .inl ⟨_, .inr (mkS kLeft), .inl hp, by rw [k3]; rfl, ?_⟩, .ref q, lf.length, rfl, .inl ⟨_, SqL.of hq, by rw [List.length_map]⟩, PostO.doneV E h rfl⟩
    rw [dealK_eq]
    simp [valV, ks_nt, kn_nt]
  · exact h.elim
def ePopL (i : Nat) : SE := fun ρ => match owS i ρ with
  | some (.deal sd nm lf) => match lf.getLast? with
    | some y => match reS i (.deal sd nm lf.dropLast) ρ with
      | some ρ' => .ok (.imm (.int y)) ρ'
      | none => .fail
    | none => .fail
  | _ => .fail
theorem pd_popL {k : Nat} (i : Nat) {x : Str} {j : Nat} {apos cpos p1 p2 p3 : Pos} (C : Ctx X W k) (hN : X.N[i]? = some x := by rfl) (hvs : Vis X.env.scope x := by first | exact Or.inl rfl | exact Or.inr (Or.inl rfl) | exact Or.inr (Or.inr rfl))
    (hd : (x == ("__debug__" : Str)) = false := by decide) (hcd : (x == ("__classdict__" : Str)) = false := by decide)
    (hbase : attributeBase (.Subscript (.Name x p1) (.Constant (.str "left") j p2) p3) "pop" X.env (eval (.Subscript (.Name x p1) (.Constant (.str "left") j p2) p3) X.env) = eval (.Subscript (.Name x p1) (.Constant (.str "left") j p2) p3) X.env := by rfl) (hline : (apos.endLine == cpos.line) = true := by rfl) :
    PEd X W (.Call (.Attribute (.Subscript (.Name x p1) (.Constant (.str "left") j p2) p3) "pop" apos) [] [] cpos) (ePopL i) := by
  refine ⟨_, pe_bm0 PySem.F.plainAttrs_list PySem.F.slot_list_pop PySem.F.type_list_pop (show MtR X "list.pop" rPop from mt_pop) (pe_dget C.u1 (pe_var hN hvs hd hcd) pe_str (by exact fun _ _ => rfl)) hbase hline, ?_⟩
  intro P σ H F ρ Q E h
  unfold ePopL at h
  split at h
  · rename_i sd nm lf q0
    split at h
    · rename_i y hy
      cases e4 : reS i (.deal sd nm lf.dropLast) ρ with
      | none => simp only [e4] at h; exact h.elim
      | some ρ' =>
        simp only [e4] at h
        obtain ⟨hi, v, hv, p, q, ev, s1, s2, hp, hq⟩ := owS_ok E q0
        subst ev
        have k3 : ("left" : Str) = mkS kLeft := by decide +kernel
        have npq : p ≠ q := fun z => by rw [z, hq] at hp; cases hp
        obtain ⟨n1, n2⟩ := ne_mut hq trivial
        refine ⟨.ref p, hv, p, .ref q, rfl, .inl ⟨_, .inr (mkS kLeft), .inl hp, by rw [k3]; rfl, ?_⟩, .inl ⟨rfl, _, SqL.of hq⟩, q, _, .int y, rfl, rfl, hq, ?_, ?_⟩
        · rw [dealK_eq]
          simp [valV, ks_nt, kn_nt]
        · rw [List.length_map, List.getElem?_map, ← List.getLast?_eq_getElem?, hy]; rfl
        · have fr : Frm (PF.Un F) (PF.Un F) H (upd H q (.lst (lf.map V.int).dropLast)) := Frm.upd1 ⟨i, s2⟩ (by rw [hq]; exact fun z => nomatch z) n1 n2
          refine h (.int y) _ F (fun _ => False) (reS_ok E e4 s2 n1 n2 hv ⟨p, q, rfl, s1, s2, by rw [upd_ne npq]; exact hp, ?_⟩) rfl (fun _ _ _ z => z) (addS fr)
          rw [upd_same, List.map_dropLast]
    · exact h.elim
  · exact h.elim
end
end PF

/-! defs of a law's text, its end -/
namespace PF
open PySem PySem.Spec PyProof.Rows
open L2
def runG (m n : Nat) (body : SS) : List Ar → FOut := fun as => if as.length = m then runF n body as else .fail
theorem runG_len {m n : Nat} {body : SS} : ∀ as, runG m n body as ≠ .fail → as.length = m := fun as h => by
  unfold runG at h
  split at h
  · assumption
  · exact absurd rfl h
section
variable {P : Program} {w : World} {K : PySem.W.Frag} {mg : Str → Option Value} {base : Heap}
theorem fn_okG {x qual : Str} {st : Stmt} {f : Addr} {fd : FuncData} {N ps : List Str} {k : Nat} {body : SS} (Fu : Fun K x qual st f fd) (S : FnScope N ps (defScope st))
    (hb : ∀ (X : Cx) (E : XK) (cdv : Value) (A : Around) (outer : List PySem.Env) (s : Shared) (H : Hp), X = cxOf (L2.CX P w) P w K mg base N qual (defScope st) f cdv A outer s H E → Ctx X (fun cls d _ H => E cls d H) k → PBd X (fun cls d _ H => E cls d H) (defBody st) body) :
    FnOk P w K mg base (L2.CX P w) (k + 1) f fd ps (fsp K mg ps.length (runG ps.length N.length body)) := (fn_okD Fu S hb).imp fun vs H Q E h => by
  obtain ⟨as, F, h1, h2, h3⟩ := h
  refine ⟨as, F, h1, h2, ?_⟩
  unfold runG at h3
  rw [if_pos h1] at h3
  exact h3
/-- a def of the text, as the top has made it -/
structure Dn (K : PySem.W.Frag) (mg : Str → Option Value) (x : Str) (st : Stmt) (ps : List Str) where
  f : Addr
  fd : FuncData
  F : Fun K x x st f fd
  b : Binds K fd ps []
  g : mg x = some (.ref f)
/-- a constant of the text: a number, a text -/
structure CnG (K : PySem.W.Frag) (mg : Str → Option Value) (x : Str) (d : D) where
  v : V
  u : Value
  m : mg x = some u
  r : RelV v u
  i : ∀ H, RI K H d v
/-- a constant of the text: a tuple -/
structure CnT (K : PySem.W.Frag) (mg : Str → Option Value) (x : Str) (l : List D) where
  c : Addr
  vs : List V
  m : mg x = some (.ref c)
  k : KT K c vs
  i : ∀ H, RIs K H l vs
theorem relS {x : Str} {l : List Nat} {t : Tok} (h : x = mkS l) : RelV (.str (mkS l)) (.str x t) := ⟨t, by rw [h]⟩
def lawSp (K : PySem.W.Frag) (g : List Ar → FOut) : Sp := fun vs H Q _ => ∃ as F r bs, as.length = 1 ∧ ArR K H F as vs ∧ g as = .ret r bs ∧ PostF K (fun _ => none) vs Q (fun _ _ _ => False) F H (.ret r bs)
theorem law_imp {k : Nat} {f : Addr} {fd : FuncData} {x : Str} {g : List Ar → FOut} {CX : CXT} (F : FnOk P w K mg base CX k f fd [x] (fsp K mg 1 g)) : FnOk P w K mg base CX k f fd [x] (lawSp K g) := F.imp fun vs H Q E h => by
  obtain ⟨as, F, r, bs, h1, h2, h3, h4⟩ := h
  exact ⟨as, F, h1, h2, by rw [h3]; exact h4⟩
theorem RIs.ints {H : Hp} : ∀ ns : List Int, RIs K H (ns.map D.int) (ns.map V.int)
  | [] => rfl
  | n :: ns => ⟨.int n, ns.map V.int, rfl, rfl, RIs.ints ns⟩
theorem lawSp_go {g : List Ar → FOut} {H : Hp} {a : Addr} {ns : List Int} (hO : L2.Only H) (hS : SqL K H a (ns.map V.int)) (h : ∃ bs, g [.imm (.lst (ns.map .int))] = .ret (.imm (.bl true)) bs) :
    lawSp K g [.ref a] H (fun v _ => v = .bl true) fun _ _ _ => False := by
  obtain ⟨bs, e⟩ := h
  refine ⟨_, fun _ _ => False, _, bs, rfl, ⟨rfl, fun i b q => ?_, fun _ _ _ z => z.elim, fun _ _ z => z.elim⟩, e, fun u H' F' S _ r _ _ => r⟩
  cases i with
  | zero =>
    cases q
    refine ⟨.ref a, rfl, a, _, rfl, ?_, RIs.ints ns⟩
    rcases hS with (h1 | ⟨o, h1⟩) | h1
    · rcases hO a with z | ⟨o, xs, z⟩
      · rw [z] at h1; cases h1
      · rw [z] at h1; cases h1
    · exact .inl ⟨o, h1⟩
    · exact .inr fun H => .inr h1
  | succ i => simp at q
theorem noCX {outer : List PySem.Env} {H : Hp} {s : Shared} {u : Value} {s' : Shared} (h : L2.CX P w outer H s (fun _ _ _ => False) u s') : False := by
  obtain ⟨_, _, _, _, _, _, _, _, _, _, _, _, h⟩ := h
  exact h
end
end PF

/-! the laws' dealer: its numbers -/
namespace PF
open PySem PySem.Spec PyProof.Rows
open L2
noncomputable def bDrawC : ST := stAnd (tV (eBin eqD (eBin idxD (eVar 0) (eC (.str [110, 117, 109, 98, 101, 114]))) (eC (.int 0)))) (tV (eBin gtD (eLenL 0) (eC (.int 0))))
noncomputable def bDrawB : SS := sPut 0 (eC (.str [110, 117, 109, 98, 101, 114])) (eFrz (ePopL 0))
noncomputable def bDraw : SS :=
    (sSeq (sWhile bDrawC bDrawB)
    (sSeq (sSet 2 (eBin idxD (eVar 0) (eC (.str [110, 117, 109, 98, 101, 114]))))
    (sSeq (sIf (tV (eBin gtD (eVar 2) (eC (.int 0)))) (sSeq (sPut 0 (eC (.str [110, 117, 109, 98, 101, 114])) (eBin fdivD (eVar 2) (eVar 1)))
    (sRet (eBin modD (eVar 2) (eVar 1)))) sPass)
    (sSeq (sSet 3 (eBin modD (eBin plusD (eBin timesD (eBin idxD (eVar 0) (eC (.str [115, 101, 101, 100]))) (eC (.int 48271))) (eC (.int 7919))) (eC (.int 2147483647))))
    (sSeq (sPut 0 (eC (.str [115, 101, 101, 100])) (eBin modD (eBin plusD (eBin timesD (eVar 3) (eC (.int 40692))) (eC (.int 104729))) (eC (.int 2147483399))))
    (sSeq (sSet 4 (eBin modD (eBin timesD (eBin idxD (eVar 0) (eC (.str [115, 101, 101, 100]))) (eBin idxD (eVar 0) (eC (.str [115, 101, 101, 100])))) (eC (.int 2147483563))))
    (sRet (eBin modD (eBin plusD (eBin timesD (eBin modD (eBin timesD (eVar 3) (eVar 3)) (eC (.int 2147483629))) (eC (.int 2147483563))) (eVar 4)) (eVar 1)))))))))
def dealOk : D → Prop
  | .deal _ nm lf => 0 ≤ nm ∧ ∀ x ∈ lf, 0 ≤ x
  | _ => False
theorem plusI (i j : Int) : plusD (.int i) (.int j) = some (.imm (.int (i + j))) := rfl
theorem timesI {i j : Int} (h : (-(2 ^ 64) < i ∧ i < 2 ^ 64) ∨ (-(2 ^ 64) < j ∧ j < 2 ^ 64)) : timesD (.int i) (.int j) = some (.imm (.int (i * j))) := by
  show (if _ then _ else _) = _
  rw [if_pos]
  simpa using h
theorem fdivI {i j : Int} (h : 0 < j) (h2 : j < 2 ^ 8000) : fdivD (.int i) (.int j) = some (.imm (.int (i / j))) := by
  show (if _ then _ else _) = _
  rw [if_pos (by rw [Bool.and_eq_true, decide_eq_true_eq, decide_eq_true_eq]; exact ⟨h, h2⟩)]
theorem modI {i j : Int} (h : 0 < j) : modD (.int i) (.int j) = some (.imm (.int (i % j))) := if_pos h
theorem eqI (i j : Int) : eqD (.int i) (.int j) = some (.imm (.bl (i == j))) := rfl
theorem drawC_ok (sd nm : Int) (lf : List Int) (s1 s2 s3 s4 : Sl) : bDrawC [.par (.deal sd nm lf), s1, s2, s3, s4] = .ok ((nm == 0) && decide (0 < (lf.length : Int))) [.par (.deal sd nm lf), s1, s2, s3, s4] := by
  by_cases h : nm = 0
  · subst h
    simp [bDrawC, stAnd, tV, eBin, eVar, eC, rd, idxD, eqI, eLenL, owS, gtD]
  · simp [bDrawC, stAnd, tV, eBin, eVar, eC, rd, idxD, eqI, h]
theorem drawB_ok (sd nm y : Int) (lf : List Int) (s1 s2 s3 s4 : Sl) (h : lf.getLast? = some y) : bDrawB [.par (.deal sd nm lf), s1, s2, s3, s4] = .nx [.par (.deal sd y lf.dropLast), s1, s2, s3, s4] := by
  simp [bDrawB, sPut, eFrz, frzV, ePopL, owS, reS, eC, rd, putD, kSeed, kNumber, h]
theorem drawW (sd : Int) (s1 s2 s3 s4 : Sl) : ∀ (k : Nat) (nm : Int) (lf : List Int), lf.length ≤ k → dealOk (.deal sd nm lf) → ∃ nm' lf', dealOk (.deal sd nm' lf') ∧ whileL bDrawC bDrawB (k + 1) [.par (.deal sd nm lf), s1, s2, s3, s4] = .nx [.par (.deal sd nm' lf'), s1, s2, s3, s4]
  | 0, nm, lf, hk, ok => by
    have e : lf = [] := List.length_eq_zero_iff.mp (by omega)
    subst e
    refine ⟨nm, [], ok, ?_⟩
    unfold whileL
    rw [drawC_ok]
    simp
  | k + 1, nm, lf, hk, ok => by
    unfold whileL
    rw [drawC_ok]
    by_cases h : (nm == 0 && decide (0 < (lf.length : Int))) = true
    · rw [h]
      dsimp only
      cases hl : lf.getLast? with
      | none =>
        rw [List.getLast?_eq_none_iff] at hl
        subst hl
        simp at h
      | some y =>
        rw [drawB_ok _ _ y _ _ _ _ _ hl]
        dsimp only
        refine drawW sd s1 s2 s3 s4 k y lf.dropLast (by rw [List.length_dropLast]; omega) ⟨ok.2 y (List.mem_of_getLast? hl), fun x hx => ok.2 x (List.dropLast_subset _ hx)⟩
    · have h' : (nm == 0 && decide (0 < (lf.length : Int))) = false := by simpa using h
      rw [h']
      exact ⟨nm, lf, ok, rfl⟩
theorem emod_big {a m b : Int} (h : 0 < m) (hb : m ≤ b) : -b < a % m ∧ a % m < b := by
  have h1 := Int.emod_nonneg a (show m ≠ 0 by omega)
  have h2 := Int.emod_lt_of_pos a h
  omega
/-- what a call comes to -/
def Rt (o : FOut) (P : Vl → List Ar → Prop) : Prop := match o with
  | .ret r bs => P r bs
  | _ => False
theorem Rt.get {o : FOut} {P : Vl → List Ar → Prop} (h : Rt o P) : ∃ r bs, o = .ret r bs ∧ P r bs := by
  cases o with
  | ret r bs => exact ⟨r, bs, rfl, h⟩
  | _ => exact h.elim
/-- a draw of so many -/
theorem draw_rt {d : D} {m : Int} (ok : dealOk d) (hm : 0 < m) (hm2 : m < 2 ^ 8000) : Rt (runG 2 5 bDraw [.mt d, .imm (.int m)]) fun v bs => ∃ r d', v = .imm (.int r) ∧ bs = [.mt d', .imm (.int m)] ∧ 0 ≤ r ∧ r < m ∧ dealOk d' := by
  cases d with
  | deal sd nm lf =>
    obtain ⟨nm1, lf1, ok1, hw⟩ := drawW sd (.imm (.int m)) .non .non .non lf.length nm lf (Nat.le_refl _) ok
    have hs : sWhile bDrawC bDrawB [.par (.deal sd nm lf), .imm (.int m), .non, .non, .non] = .nx [.par (.deal sd nm1 lf1), .imm (.int m), .non, .non, .non] := by
      rw [sWhile_eq (n := lf.length + 1) (by rw [hw]; exact fun z => nomatch z), hw]
    have m1 : ∀ a : Int, 0 ≤ a % m ∧ a % m < m := fun a => ⟨Int.emod_nonneg a (by omega), Int.emod_lt_of_pos a hm⟩
    have st : startE 5 [.mt (.deal sd nm lf), .imm (.int m)] = [.par (.deal sd nm lf), .imm (.int m), .non, .non, .non] := rfl
    by_cases h : 0 < nm1
    · simp [Rt, runG, runF, st, bDraw, sSeq, hs, sSet, putS, eBin, eVar, eC, rd, idxD, sIf, tV, gtD, h, sPut, owS, reS, fdivI hm hm2, putD, kSeed, kNumber, sRet, modI hm, retV, backs]
      exact ⟨(m1 _).1, (m1 _).2, Int.ediv_nonneg ok1.1 (by omega), ok1.2⟩
    · have c1 : (0 : Int) < 2147483647 := by decide
      have c2 : (0 : Int) < 2147483399 := by decide
      have c3 : (0 : Int) < 2147483563 := by decide
      have c4 : (0 : Int) < 2147483629 := by decide
      have k1 : timesD (.int sd) (.int 48271) = some (.imm (.int (sd * 48271))) := timesI (.inr (by decide))
      have k2 : ∀ a : Int, timesD (.int a) (.int 40692) = some (.imm (.int (a * 40692))) := fun a => timesI (.inr (by decide))
      have k3 : ∀ a : Int, timesD (.int (a % 2147483399)) (.int (a % 2147483399)) = some (.imm (.int (a % 2147483399 * (a % 2147483399)))) := fun a => timesI (.inl (emod_big c2 (by decide)))
      have k4 : ∀ a : Int, timesD (.int (a % 2147483647)) (.int (a % 2147483647)) = some (.imm (.int (a % 2147483647 * (a % 2147483647)))) := fun a => timesI (.inl (emod_big c1 (by decide)))
      have k5 : ∀ a : Int, timesD (.int a) (.int 2147483563) = some (.imm (.int (a * 2147483563))) := fun a => timesI (.inr (by decide))
      simp [Rt, runG, runF, st, bDraw, sSeq, hs, sSet, putS, eBin, eVar, eC, rd, idxD, sIf, sPass, tV, gtD, h, sPut, owS, reS, putD, kSeed, kNumber, sRet, modI hm, modI c1, modI c2, modI c3, modI c4, k1, k2, k3, k4, k5, plusI, retV, backs]
      exact ⟨(m1 _).1, (m1 _).2, ok1⟩
  | _ => exact ok.elim
theorem draw_ok {d : D} {m : Int} (ok : dealOk d) (hm : 0 < m) (hm2 : m < 2 ^ 8000) : ∃ r d', 0 ≤ r ∧ r < m ∧ dealOk d' ∧ runG 2 5 bDraw [.mt d, .imm (.int m)] = .ret (.imm (.int r)) [.mt d', .imm (.int m)] := by
  obtain ⟨v, bs, e, r, d', rfl, rfl, h⟩ := (draw_rt ok hm hm2).get
  exact ⟨r, d', h.1, h.2.1, h.2.2, e⟩
end PF

/-! loops, gone through -/
namespace PF
open PySem PySem.Spec PyProof.Rows
open L2
/-- what a comprehension makes: an invariant over (turns, made, slots) -/
theorem lcL_go {t : Tg} {c : ST} {e : SE} (I : Nat → List D → Env → Prop) : ∀ (l : List D) (k : Nat) (acc : List D) (ρ : Env), I k acc ρ →
    (∀ j d, l[j]? = some d → ∀ acc ρ, I (k + j) acc ρ → ∃ ρ1, setT t d ρ = some ρ1 ∧ ∃ b ρ2, c ρ1 = .ok b ρ2 ∧ (b = true → acc.length < big ∧ ∃ x ρ3, e ρ2 = .ok (.imm x) ρ3 ∧ I (k + j + 1) (acc ++ [x]) (wipeE ρ3 (tgS t))) ∧ (b = false → I (k + j + 1) acc (wipeE ρ2 (tgS t)))) →
    ∃ acc' ρ', lcL t c e l acc ρ = .ok acc' ρ' ∧ I (k + l.length) acc' ρ'
  | [], k, acc, ρ, h, _ => ⟨acc, ρ, rfl, h⟩
  | d :: l, k, acc, ρ, h, st => by
    obtain ⟨ρ1, e1, b, ρ2, e2, ht, hf⟩ := st 0 d rfl acc ρ h
    have nx : ∀ acc ρ, I (k + 1) acc ρ → ∃ acc' ρ', lcL t c e l acc ρ = .ok acc' ρ' ∧ I (k + (d :: l).length) acc' ρ' := fun acc ρ h => by
      have e9 : k + (d :: l).length = (k + 1) + l.length := by rw [List.length_cons]; omega
      rw [e9]
      refine lcL_go I l (k + 1) acc ρ h fun j d' hd acc ρ h => ?_
      have e8 : k + 1 + j = k + (j + 1) := by omega
      rw [e8] at h ⊢
      exact st (j + 1) d' (by simpa using hd) acc ρ h
    unfold lcL
    rw [e1]
    dsimp only
    rw [e2, Out.bind_ok]
    cases b with
    | true =>
      obtain ⟨hl, x, ρ3, e3, h3⟩ := ht rfl
      rw [if_pos rfl, e3, Out.bind_ok]
      dsimp only
      rw [if_pos hl]
      exact nx _ _ h3
    | false =>
      rw [if_neg (by decide)]
      exact nx _ _ (hf rfl)
/-- what is wished of a statement's outcome -/
structure Po where
  nx : Env → Prop
  rt : Vl → Env → Prop
  exc : Xc → Env → Prop := fun _ _ => False
def Ws (o : SOut) (p : Po) : Prop := match o with
  | .nx ρ => p.nx ρ
  | .rt v ρ => p.rt v ρ
  | .exc x ρ => p.exc x ρ
  | _ => False
theorem forL_go {t : Tg} {body : SS} (p : Po) (I : Nat → Env → Prop) : ∀ (l : List D) (k : Nat) (ρ : Env), I k ρ →
    (∀ j d, l[j]? = some d → ∀ ρ, I (k + j) ρ → ∃ ρ1, setT t d ρ = some ρ1 ∧ (match body ρ1 with
      | .nx ρ2 => I (k + j + 1) ρ2
      | .ct ρ2 => I (k + j + 1) ρ2
      | .bk ρ2 => p.nx ρ2
      | .rt v ρ2 => p.rt v ρ2
      | .exc x ρ2 => p.exc x ρ2
      | .fail => False)) → (∀ ρ, I (k + l.length) ρ → p.nx ρ) → Ws (forL t body l ρ) p
  | [], k, ρ, h, _, fin => fin ρ h
  | d :: l, k, ρ, h, st, fin => by
    obtain ⟨ρ1, e1, hb⟩ := st 0 d rfl ρ h
    have nx : ∀ ρ, I (k + 1) ρ → Ws (forL t body l ρ) p := fun ρ h => by
      refine forL_go p I l (k + 1) ρ h (fun j d' hd ρ h => ?_) fun ρ h => fin ρ ?_
      · have e8 : k + 1 + j = k + (j + 1) := by omega
        rw [e8] at h ⊢
        exact st (j + 1) d' (by simpa using hd) ρ h
      · have e9 : k + (d :: l).length = (k + 1) + l.length := by rw [List.length_cons]; omega
        rw [e9]; exact h
    unfold forL
    rw [e1]
    dsimp only
    cases eb : body ρ1 with
    | nx ρ2 => rw [eb] at hb; exact nx _ hb
    | ct ρ2 => rw [eb] at hb; exact nx _ hb
    | bk ρ2 => rw [eb] at hb; exact hb
    | rt v ρ2 => rw [eb] at hb; exact hb
    | exc x ρ2 => rw [eb] at hb; exact hb
    | fail => rw [eb] at hb; exact hb.elim
theorem Ws.nxt {o : SOut} {p : Po} (h : Ws o p) (h1 : ∀ v ρ, ¬ p.rt v ρ) (h2 : ∀ x ρ, ¬ p.exc x ρ) : ∃ ρ, o = .nx ρ ∧ p.nx ρ := by
  cases o with
  | nx ρ => exact ⟨ρ, rfl, h⟩
  | rt v ρ => exact (h1 _ _ h).elim
  | exc x ρ => exact (h2 _ _ h).elim
  | _ => exact h.elim
/-- a loop that only goes on -/
theorem forL_nx {t : Tg} {body : SS} (I : Nat → Env → Prop) {l : List D} {ρ : Env} (h0 : I 0 ρ) (st : ∀ j d, l[j]? = some d → ∀ ρ, I j ρ → ∃ ρ1 ρ2, setT t d ρ = some ρ1 ∧ (body ρ1 = .nx ρ2 ∨ body ρ1 = .ct ρ2) ∧ I (j + 1) ρ2) : ∃ ρ', forL t body l ρ = .nx ρ' ∧ I l.length ρ' := by
  have := forL_go (t := t) (body := body) ⟨I l.length, fun _ _ => False, fun _ _ => False⟩ I l 0 ρ h0 (fun j d hd ρ h => by
    rw [Nat.zero_add] at h
    obtain ⟨ρ1, ρ2, e1, e2, h2⟩ := st j d hd ρ h
    refine ⟨ρ1, e1, ?_⟩
    rw [Nat.zero_add]
    rcases e2 with e2 | e2 <;> (rw [e2]; exact h2)) (fun ρ h => by rw [Nat.zero_add] at h; exact h)
  exact this.nxt (fun _ _ z => z) (fun _ _ z => z)
theorem ints_mapM : ∀ js : List Int, (js.map D.int).mapM (fun d => match d with
      | .int i => some i
      | _ => none) = some js
  | [] => rfl
  | j :: js => by
    rw [List.map_cons, List.mapM_cons, ints_mapM js]; rfl
theorem eDeal_ok {a b c : SE} {ρ ρ1 ρ2 ρ3 : Env} {sd nm : Int} {js : List Int} (h1 : a ρ = .ok (.imm (.int sd)) ρ1) (h2 : b ρ1 = .ok (.imm (.int nm)) ρ2) (h3 : c ρ2 = .ok (.own (.lst (js.map .int))) ρ3) : eDeal a b c ρ = .ok (.own (.deal sd nm js)) ρ3 := by
  unfold eDeal
  rw [h1, Out.bind_ok, h2, Out.bind_ok, h3, Out.bind_ok]
  exact congrArg (fun o : Option (List Int) => (match o with
    | some lf => Out.ok (Vl.own (D.deal sd nm lf)) ρ3
    | none => Out.fail : Out Vl)) (ints_mapM js)
theorem sSeq_nx {a b : SS} {ρ ρ1 : Env} (h : a ρ = .nx ρ1) : sSeq a b ρ = b ρ1 := by
  unfold sSeq
  rw [h]
def bDealA : SE := eLc (iOf (eFrz (eSlc (eVar 0) (.at (eVar 1)) (.at (eC (.int 63)))))) (.nm 3) stYes (eBin maxD (eVar 3) (eBin subD (eC (.int 0)) (eVar 3)))
def bDealF : SS := sSet 4 (eBin modD (eBin plusD (eBin timesD (eVar 4) (eC (.int 48271))) (eBin modD (eVar 3) (eC (.int 2147483629)))) (eC (.int 2147483647)))
def bDealB : SE := eLc (iOf (eFrz (eVar 2))) (.nm 3) (tV (eBin geD (eVar 3) (eBin powD (eC (.int 10)) (eC (.int 18))))) (eFrz (eVar 3))
def bDeal : SS :=
    (sSeq (sSet 2 bDealA)
    (sSeq (sSet 4 (eBin plusD (eC (.int 7919)) (eVar 1)))
    (sSeq (sFor (iOf (eFrz (eVar 2))) (.nm 3) bDealF)
    (sRet (eDeal (eVar 4) (eC (.int 0)) (eUn lrevD bDealB))))))
theorem cut_ints (ns : List Int) (lo hi : Option Int) : ∃ ms : List Int, cutD (ns.map D.int) lo hi = ms.map D.int ∧ ms.length ≤ ns.length := by
  refine ⟨cutD ns lo hi, ?_, ?_⟩
  · unfold cutD
    rw [List.length_map, List.map_take, List.map_drop]
  · unfold cutD
    rw [List.length_take, List.length_drop]; omega
theorem deal_ok {ns : List Int} {base : Int} (hn : ns.length ≤ 1000) : ∃ d, dealOk d ∧ runG 2 5 bDeal [.imm (.lst (ns.map .int)), .imm (.int base)] = .ret (.own d) [.imm (.lst (ns.map .int)), .imm (.int base)] := by
  obtain ⟨ms, ec, hm⟩ := cut_ints ns (some base) (some 63)
  have st : startE 5 [.imm (.lst (ns.map .int)), .imm (.int base)] = [.imm (.lst (ns.map .int)), .imm (.int base), .non, .non, .non] := rfl
  have hbig : (1000 : Nat) < big := by decide
  -- the absolute numbers
  have hA : ∃ js : List Int, (∀ x ∈ js, 0 ≤ x) ∧ bDealA [.imm (.lst (ns.map .int)), .imm (.int base), .non, .non, .non] = .ok (.own (.lst (js.map .int))) [.imm (.lst (ns.map .int)), .imm (.int base), .non, .non, .non] ∧ js.length ≤ ms.length := by
    obtain ⟨acc, ρ', e, js, ea, ep, h1, h2⟩ := lcL_go (t := .nm 3) (c := stYes) (e := eBin maxD (eVar 3) (eBin subD (eC (.int 0)) (eVar 3))) (fun k acc ρ => ∃ js : List Int, acc = js.map D.int ∧ ρ = [.imm (.lst (ns.map .int)), .imm (.int base), .non, .non, .non] ∧ (∀ x ∈ js, 0 ≤ x) ∧ js.length = k)
      (ms.map D.int) 0 [] [.imm (.lst (ns.map .int)), .imm (.int base), .non, .non, .non] ⟨[], rfl, rfl, by simp, rfl⟩ (fun j d hd acc ρ h => by
        obtain ⟨js, rfl, rfl, h1, h2⟩ := h
        rw [List.getElem?_map] at hd
        cases q : ms[j]? with
        | none => rw [q] at hd; cases hd
        | some m =>
          rw [q] at hd
          cases hd
          have hj : j < ms.length := lt_of_get q
          refine ⟨_, rfl, true, _, rfl, fun _ => ⟨by rw [List.length_map]; omega, .int (if 0 - m > m then 0 - m else m), [.imm (.lst (ns.map .int)), .imm (.int base), .non, .imm (.int m), .non], by simp [eBin, eVar, rd, eC, subD, maxD], js ++ [if 0 - m > m then 0 - m else m], by simp, rfl, ?_, by rw [List.length_append, h2]; simp⟩, fun z => nomatch z⟩
          intro x hx
          rcases List.mem_append.mp hx with hx | hx
          · exact h1 x hx
          · rw [List.mem_singleton] at hx
            subst hx
            split <;> omega)
    subst ea ep
    refine ⟨js, h1, ?_, ?_⟩
    · simp [bDealA, eLc, iOf, eFrz, frzV, eSlc, eVar, prt, eC, rd, slcD, ec, fzb, itemsD, immAt, tgS, wipeE, e, restE]
    · rw [List.length_map] at h2; omega
  obtain ⟨js, hjs, eA, hl⟩ := hA
  -- the seed
  have hF : ∃ sd last, forL (.nm 3) bDealF (js.map .int) [.imm (.lst (ns.map .int)), .imm (.int base), .imm (.lst (js.map .int)), .non, .imm (.int (7919 + base))] = .nx [.imm (.lst (ns.map .int)), .imm (.int base), .imm (.lst (js.map .int)), last, .imm (.int sd)] ∧ (last = .non ∨ ∃ d, last = .imm d) := by
    obtain ⟨ρ', e, sd, last, er, hlast⟩ := forL_nx (t := .nm 3) (body := bDealF) (l := js.map .int) (fun k ρ => ∃ sd last, ρ = [.imm (.lst (ns.map .int)), .imm (.int base), .imm (.lst (js.map .int)), last, .imm (.int sd)] ∧ (last = .non ∨ ∃ d, last = .imm d)) ⟨7919 + base, .non, rfl, .inl rfl⟩ (fun j d hd ρ h => by
      obtain ⟨sd, last, rfl, hlast⟩ := h
      rw [List.getElem?_map] at hd
      cases q : js[j]? with
      | none => rw [q] at hd; cases hd
      | some m =>
        rw [q] at hd
        cases hd
        have es : setT (.nm 3) (.int m) [.imm (.lst (ns.map .int)), .imm (.int base), .imm (.lst (js.map .int)), last, .imm (.int sd)] = some [.imm (.lst (ns.map .int)), .imm (.int base), .imm (.lst (js.map .int)), .imm (.int m), .imm (.int sd)] := by
          rcases hlast with rfl | ⟨d, rfl⟩ <;> rfl
        refine ⟨_, [.imm (.lst (ns.map .int)), .imm (.int base), .imm (.lst (js.map .int)), .imm (.int m), .imm (.int ((sd * 48271 + m % 2147483629) % 2147483647))], es, .inl ?_, _, .imm (.int m), rfl, .inr ⟨_, rfl⟩⟩
        have c1 : (0 : Int) < 2147483647 := by decide
        have c2 : (0 : Int) < 2147483629 := by decide
        have k1 : timesD (.int sd) (.int 48271) = some (.imm (.int (sd * 48271))) := timesI (.inr (by decide))
        unfold bDealF sSet
        simp only [eBin, eVar, List.getElem?_cons_succ, List.getElem?_cons_zero, Out.bind_ok, eC, rd, k1, modI c1, modI c2, plusI, putS]
        rfl)
    subst er
    exact ⟨sd, last, e, hlast⟩
  obtain ⟨sd, last, eF, hlast⟩ := hF
  -- the great ones
  have hB : ∃ gs : List Int, (∀ x ∈ gs, 0 ≤ x) ∧ bDealB [.imm (.lst (ns.map .int)), .imm (.int base), .imm (.lst (js.map .int)), last, .imm (.int sd)] = .ok (.own (.lst (gs.map .int))) [.imm (.lst (ns.map .int)), .imm (.int base), .imm (.lst (js.map .int)), last, .imm (.int sd)] := by
    obtain ⟨acc, ρ', e, gs, ea, ep, h1, h2⟩ := lcL_go (t := .nm 3) (c := tV (eBin geD (eVar 3) (eBin powD (eC (.int 10)) (eC (.int 18))))) (e := eFrz (eVar 3)) (fun k acc ρ => ∃ gs : List Int, acc = gs.map D.int ∧ ρ = [.imm (.lst (ns.map .int)), .imm (.int base), .imm (.lst (js.map .int)), .non, .imm (.int sd)] ∧ (∀ x ∈ gs, 0 ≤ x) ∧ gs.length ≤ k)
      (js.map D.int) 0 [] [.imm (.lst (ns.map .int)), .imm (.int base), .imm (.lst (js.map .int)), .non, .imm (.int sd)] ⟨[], rfl, rfl, by simp, Nat.le_refl _⟩ (fun j d hd acc ρ h => by
        obtain ⟨gs, rfl, rfl, h1, h2⟩ := h
        rw [List.getElem?_map] at hd
        cases q : js[j]? with
        | none => rw [q] at hd; cases hd
        | some m =>
          rw [q] at hd
          cases hd
          have hj : j < js.length := lt_of_get q
          have hm0 : 0 ≤ m := hjs m (List.mem_of_getElem? q)
          refine ⟨_, rfl, decide (10 ^ 18 ≤ m), [.imm (.lst (ns.map .int)), .imm (.int base), .imm (.lst (js.map .int)), .imm (.int m), .imm (.int sd)], ?_, fun _ => ⟨by rw [List.length_map]; omega, .int m, [.imm (.lst (ns.map .int)), .imm (.int base), .imm (.lst (js.map .int)), .imm (.int m), .imm (.int sd)], rfl, gs ++ [m], by simp, rfl, ?_, by rw [List.length_append]; simp; omega⟩, fun _ => ⟨gs, rfl, rfl, h1, by omega⟩⟩
          · have hp : powD (.int 10) (.int 18) = some (.imm (.int (10 ^ 18))) := rfl
            simp only [List.set, tV, eBin, eVar, List.getElem?_cons_succ, List.getElem?_cons_zero, Out.bind_ok, eC, rd, hp, geD]
          · intro x hx
            rcases List.mem_append.mp hx with hx | hx
            · exact h1 x hx
            · rw [List.mem_singleton] at hx
              rw [hx]; exact hm0)
    subst ea ep
    refine ⟨gs, h1, ?_⟩
    rcases hlast with rfl | ⟨d, rfl⟩ <;> simp [bDealB, eLc, iOf, eFrz, frzV, eVar, itemsD, immAt, tgS, wipeE, e, restE]
  obtain ⟨gs, hgs, eB⟩ := hB
  refine ⟨.deal sd 0 gs.reverse, ⟨Int.le_refl _, fun x hx => hgs x (List.mem_reverse.mp hx)⟩, ?_⟩
  have eD : eDeal (eVar 4) (eC (.int 0)) (eUn lrevD bDealB) [.imm (.lst (ns.map .int)), .imm (.int base), .imm (.lst (js.map .int)), last, .imm (.int sd)] = .ok (.own (.deal sd 0 gs.reverse)) [.imm (.lst (ns.map .int)), .imm (.int base), .imm (.lst (js.map .int)), last, .imm (.int sd)] := by
    refine eDeal_ok rfl rfl (ρ3 := [.imm (.lst (ns.map .int)), .imm (.int base), .imm (.lst (js.map .int)), last, .imm (.int sd)]) ?_
    unfold eUn
    rw [eB, Out.bind_ok]
    simp only [rd, lrevD, List.map_reverse]
  have e1 : (sSeq (sSet 4 (eBin plusD (eC (.int 7919)) (eVar 1))) (sSeq (sFor (iOf (eFrz (eVar 2))) (.nm 3) bDealF) (sRet (eDeal (eVar 4) (eC (.int 0)) (eUn lrevD bDealB))))) [.imm (.lst (ns.map .int)), .imm (.int base), .own (.lst (js.map .int)), .non, .non] =
      .rt (.own (.deal sd 0 gs.reverse)) [.imm (.lst (ns.map .int)), .imm (.int base), .imm (.lst (js.map .int)), last, .imm (.int sd)] := by
    simp [sSeq, sSet, eBin, eC, eVar, rd, plusI, putS, sFor, iOf, eFrz, frzV, fzb, itemsD, eF, sRet, eD]
  have e2 : bDeal [.imm (.lst (ns.map .int)), .imm (.int base), .non, .non, .non] = .rt (.own (.deal sd 0 gs.reverse)) [.imm (.lst (ns.map .int)), .imm (.int base), .imm (.lst (js.map .int)), last, .imm (.int sd)] := by
    refine (sSeq_nx (ρ1 := [.imm (.lst (ns.map .int)), .imm (.int base), .own (.lst (js.map .int)), .non, .non]) ?_).trans e1
    unfold sSet
    rw [eA]
    rfl
  show (match bDeal (startE 5 [.imm (.lst (ns.map .int)), .imm (.int base)]) with
    | .nx ρ => _
    | .rt v ρ => _
    | .exc x ρ => _
    | _ => _) = _
  rw [st, e2]
  rfl
end PF

/-! draws in their places; texts by length -/
namespace PF
open PySem PySem.Spec PyProof.Rows
open L2
theorem owS_eVar {i : Nat} {ρ : Env} {d : D} (h : owS i ρ = some d) : eVar i ρ = .ok (.ref i) ρ := by
  unfold owS at h
  unfold eVar
  split at h
  · rename_i e; rw [e]
  · rename_i e; rw [e]
  · cases h
theorem reS_some {i : Nat} {ρ : Env} {d : D} (h : owS i ρ = some d) (d' : D) : ∃ ρ', reS i d' ρ = some ρ' := by
  unfold owS at h
  unfold reS
  split at h
  · exact ⟨_, rfl⟩
  · exact ⟨_, rfl⟩
  · cases h
/-- behind a call that was handed slot i's own thing, and else only what is written nowhere -/
theorem wbs_ref {i : Nat} {ρ : Env} {d d' : D} {xs : List Vl} {bs : List Ar} (h : owS i ρ = some d) (hx : ∀ k j, posOf k xs j = none) : reS i d' ρ = some (wbs (.ref i :: xs) (.mt d' :: bs) 0 ρ) := by
  have key : ∀ s, ρ[i]? = some s → (∃ x, s = .own x ∨ s = .par x) → ∀ s', wb1 (.mt d' :: bs) s (some 0) = s' → ρ.set i s' = wbs (.ref i :: xs) (.mt d' :: bs) 0 ρ := fun s hs _ s' e => by
    apply List.ext_getElem?
    intro j
    rw [wbs_get]
    by_cases hj : j = i
    · subst hj
      have hl : j < ρ.length := lt_of_get hs
      rw [List.getElem?_set_self hl, hs]
      have : posOf (0 + j) (.ref j :: xs) 0 = some 0 := by unfold posOf; rw [if_pos (by omega)]
      rw [this, Option.map_some, e]
    · rw [List.set_get_ne hj]
      have : posOf (0 + j) (.ref i :: xs) 0 = none := by
        unfold posOf
        rw [if_neg (by omega)]
        exact hx _ _
      rw [this]
      cases q : ρ[j]? with
      | none => rfl
      | some t => cases t <;> rfl
  unfold owS at h
  unfold reS
  split at h
  · rename_i x e
    rw [key _ e ⟨x, .inl rfl⟩ (.own d') rfl]
  · rename_i x e
    rw [key _ e ⟨x, .inr rfl⟩ (.par d') rfl]
  · cases h
theorem toAr_ref {i : Nat} {ρ : Env} {d : D} {xs : List Vl} {bs : List Ar} (h : owS i ρ = some d) (hx : toAr ρ xs = some bs) : toAr ρ (.ref i :: xs) = some (.mt d :: bs) := by
  unfold owS at h
  unfold toAr
  split at h
  · rename_i e; cases h; rw [e]; dsimp only; rw [hx]; rfl
  · rename_i e; cases h; rw [e]; dsimp only; rw [hx]; rfl
  · cases h
/-- a draw, in its place -/
theorem eDraw {i : Nat} {ρ ρ1 : Env} {d d0 : D} {m : Int} {a : SE} (h0 : owS i ρ = some d0) (ha : a ρ = .ok (.imm (.int m)) ρ1) (h : owS i ρ1 = some d) (ok : dealOk d) (hm : 0 < m) (hm2 : m < 2 ^ 8000) :
    ∃ r d' ρ2, 0 ≤ r ∧ r < m ∧ dealOk d' ∧ reS i d' ρ1 = some ρ2 ∧ eCall (runG 2 5 bDraw) (aCons (eVar i) (aCons a aNil)) ρ = .ok (.imm (.int r)) ρ2 := by
  obtain ⟨r, d', h1, h2, h3, e⟩ := draw_ok ok hm hm2
  refine ⟨r, d', _, h1, h2, h3, wbs_ref (xs := [.imm (.int m)]) (bs := [.imm (.int m)]) h fun _ _ => rfl, ?_⟩
  have ea : aCons (eVar i) (aCons a aNil) ρ = .ok [.ref i, .imm (.int m)] ρ1 := by
    unfold aCons
    rw [owS_eVar h0, Out.bind_ok]
    dsimp only
    rw [ha]
    rfl
  unfold eCall
  rw [ea, Out.bind_ok, toAr_ref (bs := [.imm (.int m)]) h rfl]
  dsimp only
  rw [e]
  rfl
theorem idx_lst {l : List D} {r : Int} (h0 : 0 ≤ r) (h1 : r < l.length) : ∃ d, d ∈ l ∧ l[r.toNat]? = some d ∧ idxD (.lst l) (.int r) = some (.imm d) := by
  have hl : r.toNat < l.length := by omega
  refine ⟨l[r.toNat], List.getElem_mem hl, List.getElem?_eq_getElem hl, ?_⟩
  show Option.map Vl.imm (L2.atI l r) = _
  have : L2.atI l r = some l[r.toNat] := by
    have e := atI_nat (xs := l) (j := r.toNat) (List.getElem?_eq_getElem hl)
    rw [Int.toNat_of_nonneg h0] at e
    exact e
  rw [this]; rfl
theorem idx_str {s : List Nat} {r : Int} (h0 : 0 ≤ r) (h1 : r < s.length) (hb : s.length ≤ big) : ∃ c, c ∈ s ∧ s[r.toNat]? = some c ∧ idxD (.str s) (.int r) = some (.imm (.str [c])) := by
  have hl : r.toNat < s.length := by omega
  refine ⟨s[r.toNat], List.getElem_mem hl, List.getElem?_eq_getElem hl, ?_⟩
  show (if _ then _ else _) = _
  rw [if_pos hb]
  have : L2.atI s r = some s[r.toNat] := by
    have e := atI_nat (xs := s) (j := r.toNat) (List.getElem?_eq_getElem hl)
    rw [Int.toNat_of_nonneg h0] at e
    exact e
  rw [this]; rfl
theorem len_list (x : Str) : x.cps.toList.length = x.length := by simp [Str.length]
theorem upper_ok {s : List Nat} {n : Nat} (h : s.length ≤ n) (hn : n ≤ big) : ∃ t, upperD (.str s) = some (.imm (.str t)) ∧ t.length ≤ 3 * n := by
  refine ⟨_, if_pos (Nat.le_trans h hn), ?_⟩
  rw [len_list]
  have := len_upper (mkS s)
  rw [mkS_length] at this
  omega
theorem times_ok {s : List Nat} {n : Int} (h0 : 0 ≤ n) (h1 : n ≤ 1000) (hs : s.length ≤ 1000) : ∃ t, timesD (.str s) (.int n) = some (.imm (.str t)) ∧ (t.length : Int) = s.length * n := by
  refine ⟨(Txt.mul (mkS s) n).cps.toList, ?_, ?_⟩
  · show (if _ then _ else _) = _
    rw [if_pos]
    rw [Bool.and_eq_true, Bool.and_eq_true, decide_eq_true_eq, decide_eq_true_eq]
    refine ⟨?_, h1, hs⟩
    unfold small62
    rw [Bool.and_eq_true, decide_eq_true_eq, decide_eq_true_eq]
    omega
  · rw [len_list, len_mul, mkS_length, if_neg (by simp; omega)]
theorem join_le (ys : List (List Nat)) : (joinS [] ys).length ≤ (ys.map (·.length)).sum := by
  unfold joinS
  rw [len_list]
  have e : Txt.join (mkS []) (ys.map mkS) = Str.join (mkS []) (ys.map mkS) := StrLaws.glued_eq_join _ _
  rw [e]
  have h := StrLaws.join_length_le (mkS []) (ys.map mkS)
  have e1 : (ys.map mkS).map (·.length) = ys.map (·.length) := by rw [List.map_map]; exact List.map_congr_left fun a _ => mkS_length a
  rw [e1, List.length_map, mkS_length] at h
  simpa using h
/-- signs, joined -/
theorem joins_ok (cs : List Nat) (h : cs.length ≤ big) : ∃ t, joinD (.str []) (.lst (cs.map fun c => .str [c])) = some (.imm (.str t)) ∧ t.length ≤ cs.length := by
  have e1 : strsD (cs.map fun c => D.str [c]) = some (cs.map fun c => [c]) := by
    induction cs with
    | nil => rfl
    | cons c cs ih =>
      rw [List.map_cons, List.map_cons]
      unfold strsD
      rw [ih (by rw [List.length_cons] at h; omega)]; rfl
  have e2 : ((cs.map fun c => [c]).map (·.length)).sum = cs.length := by
    induction cs with
    | nil => rfl
    | cons c cs ih =>
      rw [List.map_cons, List.map_cons, List.sum_cons, ih (by rw [List.length_cons] at h; omega)
        (by rw [List.map_cons] at e1; unfold strsD at e1; cases q : strsD (cs.map fun c => D.str [c]) with
          | none => rw [q] at e1; cases e1
          | some ys => rw [q] at e1; injection e1 with e1; injection e1 with _ e1; rw [e1])]
      rw [List.length_cons]; simp; omega
  refine ⟨joinS [] (cs.map fun c => [c]), ?_, ?_⟩
  · show joinL [] _ = _
    unfold joinL
    rw [e1]
    dsimp only
    rw [if_pos]
    rw [e2, List.length_nil, Nat.mul_zero]; omega
  · have := join_le (cs.map fun c => [c])
    rw [e2] at this
    exact this
/-- a comprehension that changes nothing but its own slot -/
theorem lcL_map {i : Nat} {e : SE} {ρ : Env} (f : D → D) (hi : i < ρ.length) (h0 : ρ[i]? = some .non) : ∀ (l acc : List D), (∀ d ∈ l, e (ρ.set i (.imm d)) = .ok (.imm (f d)) (ρ.set i (.imm d))) → acc.length + l.length ≤ big → lcL (.nm i) stYes e l acc ρ = .ok (acc ++ l.map f) ρ
  | [], acc, _, _ => by rw [List.map_nil, List.append_nil]; rfl
  | d :: l, acc, h, hl => by
    have e1 : setT (.nm i) d ρ = some (ρ.set i (.imm d)) := by
      unfold setT
      rw [h0]
    have e2 : wipeE (ρ.set i (.imm d)) (tgS (.nm i)) = ρ := by
      show (ρ.set i (.imm d)).set i .non = ρ
      rw [List.set_set, set_same h0]
    rw [List.length_cons] at hl
    unfold lcL
    rw [e1]
    show (Out.ok true (ρ.set i (.imm d))).bind _ = _
    rw [Out.bind_ok, if_pos rfl, h d List.mem_cons_self, Out.bind_ok]
    dsimp only
    rw [if_pos (by omega), e2, lcL_map f hi h0 l _ (fun d' hd => h d' (List.mem_cons_of_mem _ hd)) (by rw [List.length_append, List.length_singleton]; omega), List.append_assoc]
    rfl
theorem blsD_map (f : Nat → Bool) : ∀ s : List Nat, blsD (s.map fun c => D.bl (f c)) = some (s.map f)
  | [] => rfl
  | c :: s => by
    rw [List.map_cons, List.map_cons]
    unfold blsD
    rw [blsD_map f s]; rfl
end PF

/-! the pure functions, step by step: rows for simp only -/
namespace PF
open PySem PySem.Spec PyProof.Rows
open L2
section
variable {α β : Type} (i k n m : Nat) (ρ ρ1 : Env) (d x y : D) (v u : Vl) (a b c e : SE) (s t : ST) (p q : SS) (f : D → D → Option Vl) (g : D → Option Vl)
/-! expressions -/
def varK (i : Nat) (ρ : Env) : Option Sl → Out Vl
  | some (.imm d) => .ok (.imm d) ρ
  | some (.own _) => .ok (.ref i) ρ
  | some (.par _) => .ok (.ref i) ρ
  | _ => .fail
theorem x_var : eVar i ρ = varK i ρ ρ[i]? := by unfold eVar; rcases ρ[i]? with _ | _ | _ | _ | _ <;> rfl
theorem x_vi : varK i ρ (some (.imm d)) = .ok (.imm d) ρ := rfl
theorem x_vo : varK i ρ (some (.own d)) = .ok (.ref i) ρ := rfl
theorem x_vp : varK i ρ (some (.par d)) = .ok (.ref i) ρ := rfl
theorem x_c : eC d ρ = .ok (.imm d) ρ := rfl
def rdK : Option Sl → Option D
  | some (.imm d) => some d
  | some (.own d) => some d
  | some (.par d) => some d
  | _ => none
theorem x_rdi : rd ρ (.imm d) = some d := rfl
theorem x_rdo : rd ρ (.own d) = some d := rfl
theorem x_rdr : rd ρ (.ref i) = rdK ρ[i]? := by unfold rd; dsimp only; rcases ρ[i]? with _ | _ | _ | _ | _ <;> rfl
theorem x_rki : rdK (some (.imm d)) = some d := rfl
theorem x_rko : rdK (some (.own d)) = some d := rfl
theorem x_rkp : rdK (some (.par d)) = some d := rfl
def optK (ρ : Env) : Option Vl → Out Vl
  | some v => .ok v ρ
  | none => .fail
theorem x_opt : optK ρ (some v) = .ok v ρ := rfl
def binK3 (f : D → D → Option Vl) (ρ : Env) : Option D → Option D → Out Vl
  | some x, some y => optK ρ (f x y)
  | _, _ => .fail
def binK2 (f : D → D → Option Vl) (va : Vl) : Vl → Env → Out Vl := fun vb ρ => binK3 f ρ (rd ρ va) (rd ρ vb)
def binK (f : D → D → Option Vl) (b : SE) : Vl → Env → Out Vl := fun va ρ => (b ρ).bind (binK2 f va)
theorem x_bin : eBin f a b ρ = (a ρ).bind (binK f b) := by
  unfold eBin
  congr 1
theorem x_bin1 : binK f b v ρ = (b ρ).bind (binK2 f v) := rfl
theorem x_bin2 : binK2 f v u ρ = binK3 f ρ (rd ρ v) (rd ρ u) := rfl
theorem x_bin3 : binK3 f ρ (some x) (some y) = optK ρ (f x y) := rfl
def unK2 (g : D → Option Vl) (ρ : Env) : Option D → Out Vl
  | some x => optK ρ (g x)
  | none => .fail
def unK (g : D → Option Vl) : Vl → Env → Out Vl := fun va ρ => unK2 g ρ (rd ρ va)
theorem x_un : eUn g a ρ = (a ρ).bind (unK g) := by
  unfold eUn
  congr 1
  funext va ρ1
  show _ = unK2 g ρ1 (rd ρ1 va)
  cases rd ρ1 va <;> try rfl
theorem x_un1 : unK g v ρ = unK2 g ρ (rd ρ v) := rfl
theorem x_un2 : unK2 g ρ (some x) = optK ρ (g x) := rfl
def frzK (i : Nat) (ρ : Env) : Option Sl → Out Vl
  | some (.imm d) => .ok (.imm d) ρ
  | some (.own d) => if fzb d then .ok (.imm d) (ρ.set i (.imm d)) else .fail
  | _ => .fail
theorem x_frz : eFrz a ρ = (a ρ).bind frzV := rfl
theorem x_fzi : frzV (.imm d) ρ = .ok (.imm d) ρ := rfl
theorem x_fzo : frzV (.own d) ρ = if fzb d then .ok (.imm d) ρ else .fail := rfl
theorem x_fzr : frzV (.ref i) ρ = frzK i ρ ρ[i]? := by unfold frzV; dsimp only; rcases ρ[i]? with _ | _ | _ | _ | _ <;> rfl
theorem x_fki : frzK i ρ (some (.imm d)) = .ok (.imm d) ρ := rfl
theorem x_fko : frzK i ρ (some (.own d)) = if fzb d then .ok (.imm d) (ρ.set i (.imm d)) else .fail := rfl
theorem x_fzl (l : List D) : fzb (.lst l) = true := rfl
theorem x_fzd (l : List (DK × D)) : fzb (.dct l) = true := rfl
theorem x_fzt (l : List (List DK × D)) : fzb (.dcT l) = true := rfl
def argK2 (f : List D → Option Vl) (ρ : Env) : Option (List D) → Out Vl
  | some l => optK ρ (f l)
  | none => .fail
def argK (f : List D → Option Vl) : List Vl → Env → Out Vl := fun vs ρ => argK2 f ρ (imms vs)
theorem x_args (h : List D → Option Vl) (w : SA) : eArgs h w ρ = (w ρ).bind (argK h) := by
  unfold eArgs
  congr 1
theorem x_args1 (h : List D → Option Vl) (vs : List Vl) : argK h vs ρ = argK2 h ρ (imms vs) := rfl
theorem x_args2 (h : List D → Option Vl) (l : List D) : argK2 h ρ (some l) = optK ρ (h l) := rfl
theorem x_im0 : imms [] = some [] := rfl
theorem x_im1 (vs : List Vl) : imms (.imm d :: vs) = (imms vs).map (d :: ·) := rfl
def consK2 (v : Vl) : List Vl → Env → Out (List Vl) := fun vs ρ => .ok (v :: vs) ρ
def consK (w : SA) : Vl → Env → Out (List Vl) := fun v ρ => match v with
  | .own _ => .fail
  | v => (w ρ).bind (consK2 v)
theorem x_nil : aNil ρ = .ok [] ρ := rfl
theorem x_cons (w : SA) : aCons a w ρ = (a ρ).bind (consK w) := by
  unfold aCons
  congr 1
theorem x_cons1 (w : SA) : consK w (.imm d) ρ = (w ρ).bind (consK2 (.imm d)) := rfl
theorem x_cons2 (w : SA) : consK w (.ref i) ρ = (w ρ).bind (consK2 (.ref i)) := rfl
theorem x_cons3 (vs : List Vl) : consK2 v vs ρ = .ok (v :: vs) ρ := rfl
def callK3 (vs : List Vl) (ρ : Env) : FOut → Out Vl
  | .ret r bs => .ok r (wbs vs bs 0 ρ)
  | .exc x bs => .exc x (wbs vs bs 0 ρ)
  | .fail => .fail
def callK2 (g : List Ar → FOut) (vs : List Vl) (ρ : Env) : Option (List Ar) → Out Vl
  | none => .fail
  | some as => if ndB (refsL vs) then callK3 vs ρ (g as) else .fail
def callK (g : List Ar → FOut) : List Vl → Env → Out Vl := fun vs ρ => callK2 g vs ρ (toAr ρ vs)
theorem x_call (h : List Ar → FOut) (w : SA) : eCall h w ρ = (w ρ).bind (callK h) := by
  unfold eCall
  congr 1
theorem x_call1 (h : List Ar → FOut) (vs : List Vl) : callK h vs ρ = callK2 h vs ρ (toAr ρ vs) := rfl
theorem x_call2 (h : List Ar → FOut) (vs : List Vl) (as : List Ar) (nd : ndB (refsL vs) = true) : callK2 h vs ρ (some as) = callK3 vs ρ (h as) := if_pos nd
theorem x_call3 (vs : List Vl) (bs : List Ar) : callK3 vs ρ (.ret v bs) = .ok v (wbs vs bs 0 ρ) := rfl
theorem x_call4 (vs : List Vl) (bs : List Ar) (z : Xc) : callK3 vs ρ (.exc z bs) = .exc z (wbs vs bs 0 ρ) := rfl
def toK2 (r : Option (List Ar)) : Option Sl → Option (List Ar)
  | some (.imm d) => r.map (Ar.imm d :: ·)
  | some (.own d) => r.map (Ar.mt d :: ·)
  | some (.par d) => r.map (Ar.mt d :: ·)
  | _ => none
theorem x_ta0 : toAr ρ [] = some [] := rfl
theorem x_ta1 (vs : List Vl) : toAr ρ (.imm d :: vs) = (toAr ρ vs).map (Ar.imm d :: ·) := rfl
theorem x_ta2 (vs : List Vl) : toAr ρ (.ref i :: vs) = toK2 (toAr ρ vs) ρ[i]? := by
  rw [toAr]
  rcases ρ[i]? with _ | _ | _ | _ | _ <;> rfl
theorem x_tk1 (r : Option (List Ar)) : toK2 r (some (.imm d)) = r.map (Ar.imm d :: ·) := rfl
theorem x_tk2 (r : Option (List Ar)) : toK2 r (some (.own d)) = r.map (Ar.mt d :: ·) := rfl
theorem x_tk3 (r : Option (List Ar)) : toK2 r (some (.par d)) = r.map (Ar.mt d :: ·) := rfl
theorem x_rf0 : refsL [] = [] := rfl
theorem x_rf1 (vs : List Vl) : refsL (.imm d :: vs) = refsL vs := rfl
theorem x_rf2 (vs : List Vl) : refsL (.ref i :: vs) = i :: refsL vs := rfl
theorem x_nd0 : ndB [] = true := rfl
theorem x_nd1 : ndB [i] = true := rfl
theorem x_nd2 : ndB [i, k] = (k != i) := by simp [ndB]
theorem x_wb0 (vs : List Vl) (bs : List Ar) : wbs vs bs i [] = [] := rfl
theorem x_wb1 (vs : List Vl) (bs : List Ar) (z : Sl) : wbs vs bs i (z :: ρ) = wb1 bs z (posOf i vs 0) :: wbs vs bs (i + 1) ρ := rfl
theorem x_po0 : posOf i [] k = none := rfl
theorem x_po1 (vs : List Vl) : posOf i (.imm d :: vs) k = posOf i vs (k + 1) := rfl
theorem x_po2 (vs : List Vl) : posOf i (.ref n :: vs) k = if n = i then some k else posOf i vs (k + 1) := rfl
theorem x_w0 (bs : List Ar) (z : Sl) : wb1 bs z none = z := by cases z <;> rfl
theorem x_w1 (bs : List Ar) : wb1 bs (.imm d) (some k) = .imm d := rfl
def wbK (own : Bool) : Option Ar → Sl
  | some (.mt d) => if own then .own d else .par d
  | _ => .non
theorem x_w2 (bs : List Ar) : wb1 bs (.own d) (some k) = wbK true bs[k]? := by
  unfold wb1 wbK
  dsimp only
  rcases bs[k]? with _ | _ | _ <;> rfl
theorem x_w3 (bs : List Ar) : wb1 bs (.par d) (some k) = wbK false bs[k]? := by
  unfold wb1 wbK
  dsimp only
  rcases bs[k]? with _ | _ | _ <;> rfl
theorem x_wk1 : wbK true (some (.mt d)) = .own d := rfl
theorem x_wk2 : wbK false (some (.mt d)) = .par d := rfl
/-! tests -/
def tVK : Vl → Env → Out Bool := fun v ρ => match v with
  | .imm (.bl b) => .ok b ρ
  | _ => .fail
theorem x_tV : tV a ρ = (a ρ).bind tVK := rfl
theorem x_tV1 (z : Bool) : tVK (.imm (.bl z)) ρ = .ok z ρ := rfl
def trK3 (ρ : Env) : Option Bool → Out Bool
  | some b => .ok b ρ
  | none => .fail
def trK2 (ρ : Env) : Option D → Out Bool
  | some d => trK3 ρ (truD d)
  | none => .fail
def trK : Vl → Env → Out Bool := fun v ρ => trK2 ρ (rd ρ v)
theorem x_tr : tTr a ρ = (a ρ).bind trK := by
  unfold tTr
  congr 1
theorem x_tr1 : trK v ρ = trK2 ρ (rd ρ v) := rfl
theorem x_tr2 : trK2 ρ (some d) = trK3 ρ (truD d) := rfl
theorem x_tr3 (z : Bool) : trK3 ρ (some z) = .ok z ρ := rfl
def notK : Bool → Env → Out Bool := fun b ρ => .ok (!b) ρ
theorem x_not : stNot s ρ = (s ρ).bind notK := rfl
theorem x_not1 (z : Bool) : notK z ρ = .ok (!z) ρ := rfl
def andK (t : ST) : Bool → Env → Out Bool := fun c ρ => if c then t ρ else .ok false ρ
def orK (t : ST) : Bool → Env → Out Bool := fun c ρ => if c then .ok true ρ else t ρ
theorem x_and : stAnd s t ρ = (s ρ).bind (andK t) := rfl
theorem x_and1 : andK t true ρ = t ρ := rfl
theorem x_and2 : andK t false ρ = .ok false ρ := rfl
theorem x_or : stOr s t ρ = (s ρ).bind (orK t) := rfl
theorem x_or1 : orK t true ρ = .ok true ρ := rfl
theorem x_or2 : orK t false ρ = t ρ := rfl
def andV (b : SE) : Vl → Env → Out Vl := fun v ρ => match v with
  | .imm (.bl c) => if c then b ρ else .ok (.imm (.bl false)) ρ
  | _ => .fail
def orV (b : SE) : Vl → Env → Out Vl := fun v ρ => match v with
  | .imm (.bl c) => if c then .ok (.imm (.bl true)) ρ else b ρ
  | _ => .fail
def notVK : Vl → Env → Out Vl := fun v ρ => match v with
  | .imm (.bl c) => .ok (.imm (.bl (!c))) ρ
  | _ => .fail
theorem x_andV : eAndV a b ρ = (a ρ).bind (andV b) := rfl
theorem x_andV1 : andV b (.imm (.bl true)) ρ = b ρ := rfl
theorem x_andV2 : andV b (.imm (.bl false)) ρ = .ok (.imm (.bl false)) ρ := rfl
theorem x_orV : eOrV a b ρ = (a ρ).bind (orV b) := rfl
theorem x_orV1 : orV b (.imm (.bl true)) ρ = .ok (.imm (.bl true)) ρ := rfl
theorem x_orV2 : orV b (.imm (.bl false)) ρ = b ρ := rfl
theorem x_notV : eNotV a ρ = (a ρ).bind notVK := rfl
theorem x_notV1 (z : Bool) : notVK (.imm (.bl z)) ρ = .ok (.imm (.bl (!z))) ρ := rfl
def ifK (a b : SE) : Bool → Env → Out Vl := fun c ρ => if c then a ρ else b ρ
theorem x_if : eIf s a b ρ = (s ρ).bind (ifK a b) := rfl
theorem x_if1 : ifK a b true ρ = a ρ := rfl
theorem x_if2 : ifK a b false ρ = b ρ := rfl
/-! slices, methods -/
def prtK : Vl → Env → Out (Option Int) := fun v ρ => match v with
  | .imm (.int i) => .ok (some i) ρ
  | _ => .fail
theorem x_pno : prt .no ρ = .ok none ρ := rfl
theorem x_pat : prt (.at a) ρ = (a ρ).bind prtK := rfl
theorem x_pat1 (z : Int) : prtK (.imm (.int z)) ρ = .ok (some z) ρ := rfl
def slcK3 (v : Vl) (l : Option Int) : Option Int → Env → Out Vl := fun h ρ => unK2 (slcD l h) ρ (rd ρ v)
def slcK2 (v : Vl) (hi : Prt) : Option Int → Env → Out Vl := fun l ρ => (prt hi ρ).bind (slcK3 v l)
def slcK (lo hi : Prt) : Vl → Env → Out Vl := fun v ρ => (prt lo ρ).bind (slcK2 v hi)
theorem x_slc (lo hi : Prt) : eSlc a lo hi ρ = (a ρ).bind (slcK lo hi) := by
  unfold eSlc
  congr 1
theorem x_slc1 (lo hi : Prt) : slcK lo hi v ρ = (prt lo ρ).bind (slcK2 v hi) := rfl
theorem x_slc2 (hi : Prt) (l : Option Int) : slcK2 v hi l ρ = (prt hi ρ).bind (slcK3 v l) := rfl
theorem x_slc3 (l h : Option Int) : slcK3 v l h ρ = unK2 (slcD l h) ρ (rd ρ v) := rfl
def m1K3 (ty : D → Bool) (f : D → D → Option Vl) (b : SE) (va : Vl) (ρ : Env) : Option D → Out Vl
  | some d0 => if ty d0 then (b ρ).bind (binK2 f va) else .fail
  | none => .fail
def m1K (ty : D → Bool) (f : D → D → Option Vl) (b : SE) : Vl → Env → Out Vl := fun va ρ => m1K3 ty f b va ρ (rd ρ va)
theorem x_m1 (ty : D → Bool) : eM1 ty f a b ρ = (a ρ).bind (m1K ty f b) := by
  unfold eM1
  congr 1
theorem x_m11 (ty : D → Bool) : m1K ty f b v ρ = m1K3 ty f b v ρ (rd ρ v) := rfl
theorem x_m12 (ty : D → Bool) (h : ty d = true) : m1K3 ty f b v ρ (some d) = (b ρ).bind (binK2 f v) := if_pos h
theorem x_isS (z : List Nat) : isStrD (.str z) = true := rfl
/-! what is walked -/
def iofK2 (ρ : Env) : Option (List D) → Out (List D)
  | some l => .ok l ρ
  | none => .fail
def iofK : Vl → Env → Out (List D) := fun v ρ => match v with
  | .imm d => iofK2 ρ (itemsD d)
  | _ => .fail
theorem x_iof : iOf a ρ = (a ρ).bind iofK := by
  unfold iOf
  congr 1
theorem x_iof1 : iofK (.imm d) ρ = iofK2 ρ (itemsD d) := rfl
theorem x_iof2 (l : List D) : iofK2 ρ (some l) = .ok l ρ := rfl
theorem x_itl (l : List D) : itemsD (.lst l) = some l := rfl
theorem x_itt (l : List D) : itemsD (.tup l) = some l := rfl
theorem x_its (l : List Nat) : itemsD (.str l) = some (l.map fun c => .str [c]) := rfl
def rngK : List Vl → Env → Out (List D) := fun vs ρ => match vs with
  | [.imm (.int j)] => if small62 j then .ok (rngD 0 j.toNat) ρ else .fail
  | [.imm (.int i), .imm (.int j)] => if small62 i && small62 j then .ok (rngD i (j - i).toNat) ρ else .fail
  | _ => .fail
theorem x_rng (w : SA) : iRng w ρ = (w ρ).bind rngK := rfl
theorem x_rng1 {j : Int} (h : small62 j = true) : rngK [.imm (.int j)] ρ = .ok (rngD 0 j.toNat) ρ := if_pos h
theorem x_rng2 {z j : Int} (h : (small62 z && small62 j) = true) : rngK [.imm (.int z), .imm (.int j)] ρ = .ok (rngD z (j - z).toNat) ρ := if_pos h
def lcK2 (ρ1 : Env) (t : Tg) : Out (List D) → Out Vl
  | .ok acc ρ2 => .ok (.own (.lst acc)) (restE ρ1 (tgS t) ρ2)
  | _ => .fail
def lcK (t : Tg) (c : ST) (e : SE) : List D → Env → Out Vl := fun l ρ1 => if immAt ρ1 (tgS t) then lcK2 ρ1 t (lcL t c e l [] (wipeE ρ1 (tgS t))) else .fail
theorem x_lc (si : SI) (z : Tg) : eLc si z s e ρ = (si ρ).bind (lcK z s e) := by
  unfold eLc
  congr 1
theorem x_lc1 (z : Tg) (l : List D) (h : immAt ρ (tgS z) = true) : lcK z s e l ρ = lcK2 ρ z (lcL z s e l [] (wipeE ρ (tgS z))) := if_pos h
theorem x_lc2 (z : Tg) (l : List D) : lcK2 ρ z (.ok l ρ1) = .ok (.own (.lst l)) (restE ρ (tgS z) ρ1) := rfl
theorem x_tg1 : tgS (.nm i) = [i] := rfl
theorem x_wi0 : wipeE ρ [] = ρ := rfl
theorem x_wi1 (l : List Nat) : wipeE ρ (i :: l) = (wipeE ρ l).set i .non := rfl
theorem x_re0 : restE ρ1 [] ρ = ρ := rfl
def getK : Option Sl → Sl
  | some s => s
  | none => .non
theorem x_re1 (l : List Nat) : restE ρ1 (i :: l) ρ = (restE ρ1 l ρ).set i (getK ρ1[i]?) := by
  rw [restE, List.getD_eq_getElem?_getD]
  cases ρ1[i]? <;> rfl
theorem x_gk (z : Sl) : getK (some z) = z := rfl
def isIK : Option Sl → Bool
  | some (.imm _) => true
  | some .non => true
  | _ => false
theorem x_ia0 : immAt ρ [] = true := rfl
theorem x_ia1 (l : List Nat) : immAt ρ (i :: l) = (isIK ρ[i]? && immAt ρ l) := by
  rw [immAt]
  rcases ρ[i]? with _ | _ | _ | _ | _ <;> rfl
theorem x_ii1 : isIK (some (.imm d)) = true := rfl
theorem x_ii2 : isIK (some .non) = true := rfl
/-! statements -/
def seqK (b : SS) : SOut → SOut
  | .nx ρ1 => b ρ1
  | o => o
theorem x_seq : sSeq p q ρ = seqK q (p ρ) := by
  show (match p ρ with | .nx ρ1 => q ρ1 | o => o) = seqK q (p ρ)
  cases p ρ <;> rfl
theorem x_seq1 : seqK q (.nx ρ) = q ρ := rfl
theorem x_seq2 : seqK q (.rt v ρ) = .rt v ρ := rfl
theorem x_seq3 : seqK q (.bk ρ) = .bk ρ := rfl
theorem x_seq4 : seqK q (.ct ρ) = .ct ρ := rfl
theorem x_seq5 (z : Xc) : seqK q (.exc z ρ) = .exc z ρ := rfl
theorem x_pass : sPass ρ = .nx ρ := rfl
theorem x_brk : sBrk ρ = .bk ρ := rfl
theorem x_cont : sCont ρ = .ct ρ := rfl
theorem x_retN : sRetN ρ = .rt (.imm .non) ρ := rfl
def nxK : Option Env → SOut
  | some ρ => .nx ρ
  | none => .fail
theorem x_nxK : nxK (some ρ) = .nx ρ := rfl
def putK2 (ρ : Env) (i : Nat) (s : Sl) : Option Sl → Option Env
  | some (.par _) => none
  | none => none
  | _ => some (ρ.set i s)
theorem x_put (z : Sl) : putS i z ρ = putK2 ρ i z ρ[i]? := by unfold putS; rcases ρ[i]? with _ | _ | _ | _ | _ <;> rfl
theorem x_pk1 (z : Sl) : putK2 ρ i z (some .non) = some (ρ.set i z) := rfl
theorem x_pk2 (z : Sl) : putK2 ρ i z (some (.imm d)) = some (ρ.set i z) := rfl
theorem x_pk3 (z : Sl) : putK2 ρ i z (some (.own d)) = some (ρ.set i z) := rfl
def setK (i : Nat) : Out Vl → SOut
  | .ok (.imm d) ρ1 => nxK (putS i (.imm d) ρ1)
  | .ok (.own d) ρ1 => nxK (putS i (.own d) ρ1)
  | .ok (.ref _) _ => .fail
  | .exc x ρ1 => .exc x ρ1
  | .fail => .fail
theorem x_set : sSet i a ρ = setK i (a ρ) := by
  unfold sSet
  rcases a ρ with ⟨_ | _ | _, ρ1⟩ | _ | _ <;> try rfl
theorem x_set1 : setK i (.ok (.imm d) ρ) = nxK (putS i (.imm d) ρ) := rfl
theorem x_set2 : setK i (.ok (.own d) ρ) = nxK (putS i (.own d) ρ) := rfl
theorem x_set3 (z : Xc) : setK i (.exc z ρ) = .exc z ρ := rfl
def asgK (t : Tg) : Out Vl → SOut
  | .ok (.imm d) ρ1 => nxK (setT t d ρ1)
  | .exc x ρ1 => .exc x ρ1
  | _ => .fail
theorem x_asg (z : Tg) : sAsg z a ρ = asgK z (a ρ) := by
  unfold sAsg
  rcases a ρ with ⟨_ | _ | _, ρ1⟩ | _ | _ <;> try rfl
theorem x_asg1 (z : Tg) : asgK z (.ok (.imm d) ρ) = nxK (setT z d ρ) := rfl
theorem x_setN : setT (.nm i) d ρ = putK2 ρ i (.imm d) ρ[i]? := by unfold setT; rcases ρ[i]? with _ | _ | _ | _ | _ <;> rfl
theorem x_setTp (z : List Tg) (l : List D) : setT (.tup z) (.tup l) ρ = setTs z l ρ := by rw [setT]
def setsK (ts : List Tg) (l : List D) : Option Env → Option Env
  | some ρ1 => setTs ts l ρ1
  | none => none
theorem x_sts0 : setTs [] [] ρ = some ρ := by rw [setTs]
theorem x_sts1 (z : Tg) (zs : List Tg) (l : List D) : setTs (z :: zs) (d :: l) ρ = setsK zs l (setT z d ρ) := by
  rw [setTs]
  cases setT z d ρ <;> rfl
theorem x_sts2 (zs : List Tg) (l : List D) : setsK zs l (some ρ) = setTs zs l ρ := rfl
def ifSK (a b : SS) : Out Bool → SOut
  | .ok true ρ1 => a ρ1
  | .ok false ρ1 => b ρ1
  | .exc x ρ1 => .exc x ρ1
  | .fail => .fail
theorem x_ifS : sIf s p q ρ = ifSK p q (s ρ) := by
  show (match s ρ with | .ok true ρ1 => p ρ1 | .ok false ρ1 => q ρ1 | .exc x ρ1 => .exc x ρ1 | .fail => .fail) = ifSK p q (s ρ)
  rcases s ρ with ⟨_ | _, _⟩ | _ | _ <;> rfl
theorem x_ifS1 : ifSK p q (.ok true ρ) = p ρ := rfl
theorem x_ifS2 : ifSK p q (.ok false ρ) = q ρ := rfl
def retK : Out Vl → SOut
  | .ok v ρ1 => .rt v ρ1
  | .exc x ρ1 => .exc x ρ1
  | .fail => .fail
theorem x_ret : sRet a ρ = retK (a ρ) := by
  show (match a ρ with | .ok v ρ1 => .rt v ρ1 | .exc x ρ1 => .exc x ρ1 | .fail => .fail) = retK (a ρ)
  cases a ρ <;> rfl
theorem x_ret1 : retK (.ok v ρ) = .rt v ρ := rfl
theorem x_ret2 (z : Xc) : retK (.exc z ρ) = .exc z ρ := rfl
def exK : Out Vl → SOut
  | .ok _ ρ1 => .nx ρ1
  | .exc x ρ1 => .exc x ρ1
  | .fail => .fail
theorem x_exp : sExpr a ρ = exK (a ρ) := by
  show (match a ρ with | .ok _ ρ1 => .nx ρ1 | .exc x ρ1 => .exc x ρ1 | .fail => .fail) = exK (a ρ)
  cases a ρ <;> rfl
theorem x_exp1 : exK (.ok v ρ) = .nx ρ := rfl
theorem x_exp2 (z : Xc) : exK (.exc z ρ) = .exc z ρ := rfl
def owK : Option Sl → Option D
  | some (.own d) => some d
  | some (.par d) => some d
  | _ => none
theorem x_ow : owS i ρ = owK ρ[i]? := by unfold owS; rcases ρ[i]? with _ | _ | _ | _ | _ <;> rfl
theorem x_ow1 : owK (some (.own d)) = some d := rfl
theorem x_ow2 : owK (some (.par d)) = some d := rfl
def resK (i : Nat) (d : D) (ρ : Env) : Option Sl → Option Env
  | some (.own _) => some (ρ.set i (.own d))
  | some (.par _) => some (ρ.set i (.par d))
  | _ => none
theorem x_rs : reS i d ρ = resK i d ρ ρ[i]? := by unfold reS; rcases ρ[i]? with _ | _ | _ | _ | _ <;> rfl
theorem x_rs1 : resK i d ρ (some (.own x)) = some (ρ.set i (.own d)) := rfl
theorem x_rs2 : resK i d ρ (some (.par x)) = some (ρ.set i (.par d)) := rfl
def appK3 (i : Nat) (d : D) (ρ1 : Env) : Option D → SOut
  | some (.lst l) => if l.length < big then nxK (reS i (.lst (l ++ [d])) ρ1) else .fail
  | _ => .fail
def appK2 (i : Nat) : Out Vl → SOut
  | .ok (.imm d) ρ1 => appK3 i d ρ1 (owS i ρ1)
  | .exc x ρ1 => .exc x ρ1
  | _ => .fail
def appK (i : Nat) (o : Out Vl) : Option D → SOut
  | some (.lst _) => appK2 i o
  | _ => .fail
theorem x_app : sApp i a ρ = appK i (a ρ) (owS i ρ) := by
  unfold sApp appK
  cases owS i ρ with
  | none => rfl
  | some z =>
    cases z with
    | lst l0 =>
      dsimp only
      rcases a ρ with ⟨_ | _ | _, ρ1⟩ | _ | _ <;> try rfl
    | _ => rfl
theorem x_app1 (o : Out Vl) (l : List D) : appK i o (some (.lst l)) = appK2 i o := rfl
theorem x_app2 : appK2 i (.ok (.imm d) ρ) = appK3 i d ρ (owS i ρ) := rfl
theorem x_app3 (l : List D) (h : l.length < big) : appK3 i d ρ (some (.lst l)) = nxK (reS i (.lst (l ++ [d])) ρ) := if_pos h
def sputK4 (i : Nat) (ρ : Env) : Option D → SOut
  | some x' => nxK (reS i x' ρ)
  | none => .fail
def sputK3 (i : Nat) (d : D) (ρ : Env) : Option D → Option D → SOut
  | some kd, some x => sputK4 i ρ (putD x kd d)
  | _, _ => .fail
def sputK2 (i : Nat) (d : D) : Out Vl → SOut
  | .ok kv ρ2 => sputK3 i d ρ2 (rd ρ2 kv) (owS i ρ2)
  | .exc x ρ2 => .exc x ρ2
  | .fail => .fail
def sputK1 (i : Nat) (k : SE) (d : D) (ρ1 : Env) : Option D → SOut
  | some _ => sputK2 i d (k ρ1)
  | none => .fail
def sputK (i : Nat) (k : SE) : Out Vl → SOut
  | .ok (.imm d) ρ1 => sputK1 i k d ρ1 (owS i ρ1)
  | .exc x ρ1 => .exc x ρ1
  | _ => .fail
theorem x_sput : sPut i b a ρ = sputK i b (a ρ) := by
  unfold sPut
  rcases a ρ with ⟨_ | _ | _, ρ1⟩ | _ | _ <;> try rfl
theorem x_sput1 : sputK i b (.ok (.imm d) ρ) = sputK1 i b d ρ (owS i ρ) := rfl
theorem x_sput2 : sputK1 i b d ρ (some x) = sputK2 i d (b ρ) := rfl
theorem x_sput3 : sputK2 i d (.ok v ρ) = sputK3 i d ρ (rd ρ v) (owS i ρ) := rfl
theorem x_sput4 : sputK3 i d ρ (some y) (some x) = sputK4 i ρ (putD x y d) := rfl
theorem x_sput5 : sputK4 i ρ (some x) = nxK (reS i x ρ) := rfl
def forK (t : Tg) (b : SS) : Out (List D) → SOut
  | .ok l ρ1 => forL t b l ρ1
  | .exc x ρ1 => .exc x ρ1
  | .fail => .fail
theorem x_for (si : SI) (z : Tg) : sFor si z p ρ = forK z p (si ρ) := by
  show (match si ρ with | .ok l ρ1 => forL z p l ρ1 | .exc x ρ1 => .exc x ρ1 | .fail => .fail) = forK z p (si ρ)
  cases si ρ <;> rfl
theorem x_for1 (z : Tg) (l : List D) : forK z p (.ok l ρ) = forL z p l ρ := rfl
/-! a def -/
def finK2 : Option Vl → Option (List Ar) → FOut
  | some r, some bs => .ret r bs
  | _, _ => .fail
def finX (x : Xc) : Option (List Ar) → FOut
  | some bs => .exc x bs
  | none => .fail
def finK (as : List Ar) : SOut → FOut
  | .nx ρ => finK2 (some (.imm .non)) (backs as ρ)
  | .rt v ρ => finK2 (retV ρ v) (backs as ρ)
  | .exc x ρ => finX x (backs as ρ)
  | _ => .fail
theorem x_run (as : List Ar) (h : as.length = m) : runG m n p as = finK as (p (startE n as)) := by
  unfold runG
  rw [if_pos h]
  unfold runF
  cases p (startE n as) with
  | nx ρ => show (match backs as ρ with | some bs => FOut.ret (.imm .non) bs | none => .fail) = finK2 _ (backs as ρ); cases backs as ρ <;> rfl
  | rt v ρ => show (match retV ρ v, backs as ρ with | some r, some bs => FOut.ret r bs | _, _ => .fail) = finK2 (retV ρ v) (backs as ρ); cases retV ρ v <;> cases backs as ρ <;> rfl
  | exc x ρ => show (match backs as ρ with | some bs => FOut.exc x bs | none => .fail) = finX x (backs as ρ); cases backs as ρ <;> rfl
  | _ => rfl
theorem x_fin1 (as : List Ar) : finK as (.nx ρ) = finK2 (some (.imm .non)) (backs as ρ) := rfl
theorem x_fin2 (as : List Ar) : finK as (.rt v ρ) = finK2 (retV ρ v) (backs as ρ) := rfl
theorem x_fin3 (as : List Ar) (z : Xc) : finK as (.exc z ρ) = finX z (backs as ρ) := rfl
theorem x_fin4 (bs : List Ar) : finK2 (some v) (some bs) = .ret v bs := rfl
theorem x_fin5 (bs : List Ar) (z : Xc) : finX z (some bs) = .exc z bs := rfl
theorem x_rvi : retV ρ (.imm d) = some (.imm d) := rfl
theorem x_rvo : retV ρ (.own d) = some (.own d) := rfl
def rvK : Option Sl → Option Vl
  | some (.own d) => some (.own d)
  | some (.imm d) => some (.imm d)
  | _ => none
theorem x_rvr : retV ρ (.ref i) = rvK ρ[i]? := by unfold retV; dsimp only; rcases ρ[i]? with _ | _ | _ | _ | _ <;> rfl
theorem x_rk1 : rvK (some (.own d)) = some (.own d) := rfl
theorem x_rk2 : rvK (some (.imm d)) = some (.imm d) := rfl
theorem x_ba0 : backs [] ρ = some [] := rfl
theorem x_ba1 (as : List Ar) (z : Sl) : backs (.imm d :: as) (z :: ρ) = (backs as ρ).map (.imm d :: ·) := rfl
theorem x_ba2 (as : List Ar) : backs (.mt d :: as) (.par x :: ρ) = (backs as ρ).map (.mt x :: ·) := rfl
theorem x_se (as : List Ar) : startE n as = as.map slOf ++ List.replicate (n - as.length) .non := rfl
theorem x_si : slOf (.imm d) = .imm d := rfl
theorem x_sm : slOf (.mt d) = .par d := rfl
/-! values -/
theorem x_tupD (l : List D) (h : l.length ≤ big) : tupD l = some (.imm (.tup l)) := if_pos h
theorem x_lstD (l : List D) (h : l.length ≤ big) : lstD l = some (.own (.lst l)) := if_pos h
theorem x_plusS (z w : List Nat) (h : z.length + w.length ≤ big) : plusD (.str z) (.str w) = some (.imm (.str (z ++ w))) := if_pos h
theorem x_plusL (z w : List D) (h : z.length + w.length ≤ big) : plusD (.lst z) (.lst w) = some (.own (.lst (z ++ w))) := if_pos h
theorem x_lenS (z : List Nat) (h : z.length ≤ big) : lenD (.str z) = some (.imm (.int z.length)) := if_pos h
theorem x_lenL (z : List D) : lenD (.lst z) = some (.imm (.int z.length)) := rfl
theorem x_lenT (z : List D) : lenD (.tup z) = some (.imm (.int z.length)) := rfl
theorem x_sub (z w : Int) : subD (.int z) (.int w) = some (.imm (.int (z - w))) := rfl
theorem x_lt (z w : Int) : ltD (.int z) (.int w) = some (.imm (.bl (decide (z < w)))) := rfl
theorem x_gt (z w : Int) : gtD (.int z) (.int w) = some (.imm (.bl (decide (w < z)))) := rfl
theorem x_le (z w : Int) : leD (.int z) (.int w) = some (.imm (.bl (decide (z ≤ w)))) := rfl
theorem x_ge (z w : Int) : geD (.int z) (.int w) = some (.imm (.bl (decide (w ≤ z)))) := rfl
theorem x_neg (z : Int) : negD (.int z) = some (.imm (.int (-z))) := rfl
theorem x_revs (l : List D) : revsD (.lst l) = some (.own (.lst l.reverse)) := rfl
theorem x_neB (z w : Bool) : neD (.bl z) (.bl w) = some (.imm (.bl (!(z == w)))) := rfl
theorem x_eqB (z w : Bool) : eqD (.bl z) (.bl w) = some (.imm (.bl (z == w))) := rfl
theorem x_tB (z : Bool) : truD (.bl z) = some z := rfl
end
def nim : Sl → Prop
  | .non => True
  | .imm _ => True
  | _ => False
theorem nim0 : nim .non := trivial
theorem nim1 (d : D) : nim (.imm d) := trivial
theorem x_pkn {ρ : Env} {i : Nat} {z s : Sl} (h : nim s) : putK2 ρ i z (some s) = some (ρ.set i z) := by
  cases s with
  | non => rfl
  | imm d => rfl
  | _ => exact h.elim
theorem x_iin {s : Sl} (h : nim s) : isIK (some s) = true := by
  cases s with
  | non => rfl
  | imm d => rfl
  | _ => exact h.elim
theorem x_slcS {lo hi : Option Int} {z : List Nat} (h : z.length ≤ big) : slcD lo hi (.str z) = some (.imm (.str (cutD z lo hi))) := if_pos h
theorem x_slcL {lo hi : Option Int} {z : List D} : slcD lo hi (.lst z) = some (.own (.lst (cutD z lo hi))) := rfl
theorem x_slcT {lo hi : Option Int} {z : List D} : slcD lo hi (.tup z) = some (.imm (.tup (cutD z lo hi))) := rfl
theorem x_memT {neg : Bool} {d : D} {l : List D} (h : (flatD d && l.all flatD) = true) : memD neg d (.tup l) = some (.imm (.bl (if neg then !(l.any fun x => eqP x d) else l.any fun x => eqP x d))) := by
  cases d <;> first | exact if_pos h | (cases h)
theorem x_memL {neg : Bool} {d : D} {l : List D} (h : (flatD d && l.all flatD) = true) : memD neg d (.lst l) = some (.imm (.bl (if neg then !(l.any fun x => eqP x d) else l.any fun x => eqP x d))) := by
  cases d <;> first | exact if_pos h | (cases h)
theorem x_yes {ρ : Env} : stYes ρ = .ok true ρ := rfl
theorem x_tms (i : Int) (j : Int) (h : ((decide (-(2 ^ 64) < i) && decide (i < 2 ^ 64)) || (decide (-(2 ^ 64) < j) && decide (j < 2 ^ 64))) = true) : timesD (.int i) (.int j) = some (.imm (.int (i * j))) := if_pos h
theorem x_mod (i j : Int) (h : 0 < j) : modD (.int i) (.int j) = some (.imm (.int (i % j))) := if_pos h
theorem x_fdiv (i j : Int) (h : (0 < j ∧ j ≤ 4611686018427387904)) : fdivD (.int i) (.int j) = some (.imm (.int (i / j))) := by
  refine fdivI h.1 ?_
  have h1 : (2 ^ 62 : Nat) < 2 ^ 8000 := Nat.pow_lt_pow_right (by decide) (by decide)
  have h2 : ((2 ^ 62 : Nat) : Int) < ((2 ^ 8000 : Nat) : Int) := Int.ofNat_lt.mpr h1
  have h3 : ((2 ^ 8000 : Nat) : Int) = 2 ^ 8000 := by norm_cast
  rw [h3] at h2
  have h4 : ((2 ^ 62 : Nat) : Int) = 4611686018427387904 := by decide
  omega
theorem cut_len {α : Type} (l : List α) (lo hi : Option Int) : (cutD l lo hi).length ≤ l.length := by
  unfold cutD
  rw [List.length_take, List.length_drop]; omega
theorem rngD_get {lo : Int} {n j : Nat} {d : D} (h : (rngD lo n)[j]? = some d) : d = .int (lo + j) ∧ j < n := by
  unfold rngD at h
  rw [List.getElem?_map] at h
  by_cases hj : j < n
  · rw [List.getElem?_eq_getElem (by simpa using hj)] at h
    simp at h
    exact ⟨h.symm, hj⟩
  · rw [List.getElem?_eq_none (by simp; omega)] at h
    cases h
theorem rngD_len (lo : Int) (n : Nat) : (rngD lo n).length = n := by simp [rngD]
theorem x_sm62 {j : Int} (h : (decide (-4611686018427387904 ≤ j) && decide (j < 4611686018427387904)) = true) : small62 j = true := by
  unfold small62
  exact h
theorem x_big {n : Nat} (h : n ≤ 1000000) : (n ≤ big) = True := eq_true h
theorem x_bigL {n : Nat} (h : n < 1000000) : (n < big) = True := eq_true h
theorem le8000 {m : Int} (h : m ≤ 4611686018427387904) : m < 2 ^ 8000 := by
  have h1 : (2 ^ 62 : Nat) < 2 ^ 8000 := Nat.pow_lt_pow_right (by decide) (by decide)
  have h2 : ((2 ^ 62 : Nat) : Int) < ((2 ^ 8000 : Nat) : Int) := Int.ofNat_lt.mpr h1
  have h3 : ((2 ^ 8000 : Nat) : Int) = 2 ^ 8000 := by norm_cast
  rw [h3] at h2
  have h4 : ((2 ^ 62 : Nat) : Int) = 4611686018427387904 := by decide
  omega
end PF

/-! enumerate, pop, clear, defs that call themselves -/
namespace PF
open PySem PySem.Spec PyProof.Rows
open L2
section
variable {prog : Program} {w : World} {A : Around} {E : Value → Shared → Prop} {s : Shared}
theorem draws_tuple (hh : A.handled = none) (it l : Addr) (hne : l ≠ it) (items : Array Value) :
    Draws prog w A it [it, l] items.size (fun i v => items[i]? = some v) (fun i h => h.IsTupleIter it l i ∧ h.IsTuple l items) where
  live := fun i h st => let ⟨o, e, _⟩ := st.1; ⟨o, e⟩
  frame := fun i h h' st k => by
    obtain ⟨⟨o, e, r⟩, ⟨o2, e2, r2⟩⟩ := st
    exact ⟨⟨o, k it (by simp) o e, r⟩, ⟨o2, k l (by simp) o2 e2, r2⟩⟩
  item := fun i s Q E hi st hQ => by
    refine RZ.nextOf_tuple_item st.1 st.2 (x := items[i]) (by simp [hi]) fun h' it' sb => ?_
    obtain ⟨o2, e2, r2⟩ := st.2
    exact hQ _ h' s.toks (by simp [hi]) ⟨it', ⟨o2, (sb.2 l hne).trans e2, r2⟩⟩ sb
  done := fun s Q E st hE => RZ.nextOf_tuple_end hh st.1 st.2 (by simp) hE
theorem meets_enum_newT (l : Addr) (o : Obj) (items : Array Value) (n : Nat) (hc : o.cls = .type "tuple") (hd : o.data = .seq items n) :
    Meets (Builtin.«enumerate.__new__» ⟨[.type "enumerate", .ref l], []⟩) (fun _ R s => s.heap.get? l = some o ∧
      R (.ok (.ret (.ref (s.heap.push { cls := .type "tuple_iterator", data := .fields #[.ref l, .int 0 0] }).objs.size)))
        { s with heap := (s.heap.push { cls := .type "tuple_iterator", data := .fields #[.ref l, .int 0 0] }).push { cls := .type "enumerate", data := .fields #[.none, .bool false, .ref s.heap.objs.size, rawInt 0, .none, .none] } }) :=
  .of_wp fun prog w A R s h => by
    obtain ⟨hp, g, d, tk, os⟩ := s; obtain ⟨hl, h⟩ := h
    have hsub := sub_enumerate
    have hL : Heap.IsTuple (Shared.heap ⟨hp, g, d, tk, os⟩) l items := ⟨_, hl, hc, n, hd⟩
    wp_walk using AutoSeq1.wpAny_loadPart' hl
    refine wpAny_stack_any fun st => wpAny_pure ?_
    split
    · rename_i c _ _ _ _ _
      cases (c == Value.type "enumerate")
      · wp_walk using AutoSeq1.wpAny_loadPart' hl, wpAny_pyIter_tuple hL
        exact ⟨_, rfl, h⟩
      · wp_walk using AutoSeq1.wpAny_loadPart' hl, wpAny_pyIter_tuple hL
        exact ⟨_, rfl, h⟩
    · wp_walk using AutoSeq1.wpAny_loadPart' hl, wpAny_pyIter_tuple hL
      exact ⟨_, rfl, h⟩
theorem call_enum_tuple {l : Addr} {items : Array Value} {Q : Value → Shared → Prop} (hL : s.heap.IsTuple l items)
    (h : ∀ h', IsEnum h' (s.heap.objs.size + 1) s.heap.objs.size 0 .none → h'.IsTupleIter s.heap.objs.size l 0 → h'.objs.size = s.heap.objs.size + 2 →
      (∀ b o, s.heap.get? b = some o → h'.get? b = some o) → Q (.ref (s.heap.objs.size + 1)) { s with heap := h' }) :
    wpAny (model prog w) A (call (.type "enumerate") [.ref l]) Q E s := by
  obtain ⟨o, hl, hc, n, hd⟩ := hL
  refine callType_new F.called_enumerate (by decide) (F.typeCall_enumerate_1 _) (F.newCall_enumerate_1 _) (fun obj => F.args_object_init_2 obj _) F.entry_enumerate_new
    (meets_enum_newT l o items n hc hd) ⟨hl, ?_⟩
  have hz : (s.heap.push { cls := .type "tuple_iterator", data := .fields #[.ref l, .int 0 0] }).objs.size = s.heap.objs.size + 1 := Heap.size_push ..
  show _ ∧ _
  rw [hz]
  have he : IsEnum ((s.heap.push { cls := .type "tuple_iterator", data := .fields #[.ref l, .int 0 0] }).push
      { cls := .type "enumerate", data := .fields #[.none, .bool false, .ref s.heap.objs.size, rawInt 0, .none, .none] }) (s.heap.objs.size + 1) s.heap.objs.size 0 .none := by
    have := Heap.get?_push_size (s.heap.push { cls := .type "tuple_iterator", data := .fields #[.ref l, .int 0 0] })
      (o := { cls := .type "enumerate", data := .fields #[.none, .bool false, .ref s.heap.objs.size, rawInt 0, .none, .none] }) rfl
    rw [hz] at this; exact this
  refine ⟨⟨_, he, rfl⟩, h _ he ⟨_, Heap.get?_push_of_some _ (Heap.get?_push_size _ rfl), rfl, rfl⟩ (by rw [Heap.size_push, hz]) fun b o y => Heap.get?_push_of_some _ (Heap.get?_push_of_some _ y)⟩
end
/-- the tuple at a as it stands at each turn, each item in a new pair -/
def IteT (K : PySem.W.Frag) (a : Addr) : It :=
  ⟨fun i H => ∃ (xs : List V) (x : V), SqT K H a xs ∧ xs[i]? = some x, fun i H v H' => ∃ T x, v = .ref T ∧ H T = none ∧ H' = upd H T (.tup [.int (i : Nat), x]) ∧ ∀ xs, SqT K H a xs → xs[i]? = some x, fun i H => ∃ xs : List V, SqT K H a xs ∧ xs.length ≤ i⟩
theorem turn_enumT {P : Program} {w : World} {K : PySem.W.Frag} {elts : List Expr} {kk : Nat} {tpos : Pos} (a e it : Addr) (hai : a ≠ it) (hae : a ≠ e) :
    Turn P w K (.Tuple elts kk tpos) (IteT K a) [e, it] e (fun i h => (∃ old, IsEnum h e it ((i : Nat) : Int) old) ∧ h.IsTupleIter it a i ∧ e ≠ it) where
  mem := by simp
  obj := fun i h st b hb => by
    obtain ⟨⟨old, he⟩, ⟨o, ho, hc, hd⟩, _⟩ := st
    have e' : b = e ∨ b = it := by simpa using hb
    rcases e' with z | z
    · rw [z]; exact ⟨_, he, fun v q => nomatch q⟩
    · rw [z]; exact ⟨o, ho, fun v q => by rw [hd] at q; cases q⟩
  keep := fun i h h' st k => let ⟨⟨old, he⟩, hi, hne⟩ := st; ⟨⟨old, k e (by simp) _ he⟩, hi.at fun o q => k it (by simp) o q, hne⟩
  item := by
    intro X hP hw hK hc i pins s σ H E I hf st hg
    subst hP hw hK
    obtain ⟨⟨old, he⟩, hit, hne⟩ := st
    obtain ⟨xs, x, hq, hx⟩ := hg
    obtain ⟨its, rv, p, hz⟩ := I.tuple hq
    obtain ⟨u, hu, ru⟩ := rv.get hx
    have hel : e < s.heap.objs.size := Heap.lt_size he
    have hil : it < s.heap.objs.size := by obtain ⟨_, q, _⟩ := hit; exact Heap.lt_size q
    have hu' : its.toArray[i]? = some u := by simpa using hu
    have hlt : i < its.toArray.size := (Array.getElem?_eq_some_iff.mp hu').1
    refine wpAny_pyNext_enum_itemD (draws_tuple (A := X.A.in1) (I.ok.hd hc) it a hai its.toArray) he ⟨hit, p⟩ hlt hne (fun z => ?_) fun x' h' tk hP ho hst' hT hsz hk => ?_
    · have e' : e = it ∨ e = a := by simpa using z
      rcases e' with z | z
      · exact hne z
      · exact hae z.symm
    have ex : x' = u := by rw [hu'] at hP; exact (Option.some.inj hP).symm
    subst ex
    refine ⟨_, rfl, wpAny_letOwnedTupleGo_enum (s := { s with heap := h', toks := tk + 1 }) ho fun h'' he' sb => ?_⟩
    have hT2 : h''.get? s.heap.objs.size = some { cls := .type "tuple", data := .seq #[.int i tk, x'] } := (sb.2 _ (Nat.ne_of_gt hel)).trans hT
    have new : ObjOk X.prog X.w (upd H s.heap.objs.size (.tup [.int (i : Nat), x])) h'' s.heap.objs.size (.tup [.int (i : Nat), x]) :=
      ⟨by show 2 ≤ sizeLine; decide, [.int i tk, x'], .cons ⟨_, rfl⟩ (.cons ru .nil), ⟨_, hT2, rfl, _, rfl⟩⟩
    have I1 : Inv X pins σ (upd H s.heap.objs.size (.tup [.int (i : Nat), x])) { s with heap := h'', toks := tk + 1 } :=
      I.turnedNew (ch := [e, it]) (fun b ob hb q => (sb.2 b (fun z => hb (by simp [z]))).trans (hk b ob (fun z => hb (by simp [z])) (fun z => hb (by simp [z])) q)) hf (Nat.le_refl _) new
    refine ⟨.ref s.heap.objs.size, _, I1, rfl, ⟨_, x, rfl, I.hok.fresh (Nat.le_refl _), rfl, fun ys hy => by rw [I.tuple_inj hy hq]; exact hx⟩, ⟨⟨x', ?_⟩, hst'.1.at fun o q => (sb.2 it (Ne.symm hne)).trans q, hne⟩, fun b hb => ?_⟩
    · have e1 : ((i + 1 : Nat) : Int) = (i : Int) + 1 := by omega
      rw [e1]; exact he'
    · have hb' : b < s.heap.objs.size := by
        have e' : b = e ∨ b = it := by simpa using hb
        rcases e' with z | z
        · rw [z]; exact hel
        · rw [z]; exact hil
      rw [upd_ne (Nat.ne_of_lt hb')]
      exact (hf b hb).1
  done := by
    intro X hP hw hK hc i pins s σ H E I hf st hg
    subst hP hw hK
    obtain ⟨⟨old, he⟩, hit, hne⟩ := st
    obtain ⟨xs, hq, hx⟩ := hg
    obtain ⟨its, rv, p, hz⟩ := I.tuple hq
    obtain ⟨f0, f1, f2, f3, f4, f5⟩ := hf it (by simp)
    have hl := rv.length
    have hh : X.A.in1.handled = none := I.ok.hd hc
    have D : Draws X.prog X.w X.A.in1 it [it, a] 0 (fun _ _ => True) (fun _ h => h.IsTupleIter it a i ∧ h.IsTuple a its.toArray) := {
      live := fun _ h st => let ⟨o, e, _⟩ := st.1; ⟨o, e⟩
      frame := fun _ h h' st k => by
        obtain ⟨⟨o, e, r⟩, ⟨o2, e2, r2⟩⟩ := st
        exact ⟨⟨o, k it (by simp) o e, r⟩, ⟨o2, k a (by simp) o2 e2, r2⟩⟩
      item := fun j s Q E hi st hQ => absurd hi (Nat.not_lt_zero _)
      done := fun s Q E st hE => RZ.nextOf_tuple_end hh st.1 st.2 (by simp; omega) hE }
    exact wpAny_pyNext_enum_endD D he ⟨hit, p⟩ fun h' eb => ⟨rfl, I.turned (t' := s.toks) (fun b o hb q => eb b o hb q) f0 f1 f3 f4 f5⟩
  self := fun A i s Q E st h => let ⟨⟨_, he⟩, _⟩ := st; wpAny_pyIter_enum he h
section
variable {X : Cx} {W : WX} {K : PySem.W.Frag} {mg : Str → Option Value}
def iEnumA (K : PySem.W.Frag) (ta : TA) : TI := fun σ H R => ta σ H fun vs H1 => ∃ a xs, vs = [.ref a] ∧ ((SqL K H1 a xs ∧ R (Ite K a) H1) ∨ (SqT K H1 a xs ∧ R (IteT K a) H1))
theorem pi_enumA {e : Expr} {ta : TA} {p pos tpos : Pos} {elts : List Expr} {kk : Nat} (hg : Gl X "enumerate") (hm : X.mg "enumerate" = none) (ha : PA X [e] ta) (hs : starEach [e] X.env = [(false, eval e X.env)] := by rfl) :
    PI X (.Tuple elts kk tpos) (.Call (.Name "enumerate" p) [e] [] pos) (iEnumA X.K ta) := by
  refine ⟨fun pins s σ H R I h => ?_⟩
  refine Call_ (ld_blt I hg hm boot_enumerate (PyProof.Rows.callWith_type1 (thn (ha.run pos pins s σ H _ I h) fun us s1 ⟨vs, H1, I1, r1, q1⟩ => ?_) hs rfl))
  obtain ⟨a, xs, ex, q1⟩ := q1
  subst ex
  cases r1 with
  | cons r rr =>
    cases rr
    cases r
    have fp : ∀ b, b ∈ [s1.heap.objs.size + 1, s1.heap.objs.size] → FpOk X pins H1 b := fun b hb => by
      have e' : b = s1.heap.objs.size + 1 ∨ b = s1.heap.objs.size := by simpa using hb
      have hle : s1.heap.objs.size ≤ b := by
        rcases e' with z | z
        · rw [z]; exact Nat.le_add_right _ _
        · rw [z]; exact Nat.le_refl _
      exact I1.fpOk hle (I1.hok.fresh hle)
    rcases q1 with ⟨hq, q⟩ | ⟨hq, q⟩
    · obtain ⟨its, rv, p', hz⟩ := I1.list hq
      refine call_enumerate_list p'.isList fun h' he hit hsz hk => wpAny_pyIter_enum he ?_
      have I2 : Inv X pins σ H1 { s1 with heap := h' } := I1.kept (t' := s1.toks) hk
      exact ⟨s1.heap.objs.size + 1, [s1.heap.objs.size + 1, s1.heap.objs.size], _, _, H1, rfl, I2, turn_enum a (s1.heap.objs.size + 1) s1.heap.objs.size, ⟨⟨.none, he⟩, hit, Nat.succ_ne_self _⟩, fp, q⟩
    · obtain ⟨its, rv, p', hz⟩ := I1.tuple hq
      have hal : a < s1.heap.objs.size := by obtain ⟨o, e, _⟩ := p'; exact Heap.lt_size e
      refine call_enum_tuple p' fun h' he hit hsz hk => wpAny_pyIter_enum he ?_
      have I2 : Inv X pins σ H1 { s1 with heap := h' } := I1.kept (t' := s1.toks) hk
      exact ⟨s1.heap.objs.size + 1, [s1.heap.objs.size + 1, s1.heap.objs.size], _, _, H1, rfl, I2, turn_enumT a (s1.heap.objs.size + 1) s1.heap.objs.size (Nat.ne_of_lt hal) (Nat.ne_of_lt (Nat.lt_succ_of_lt hal)), ⟨⟨.none, he⟩, hit, Nat.succ_ne_self _⟩, fp, q⟩
def enumL : Nat → List D → List D
  | _, [] => []
  | k, d :: l => .tup [.int (k : Nat), d] :: enumL (k + 1) l
theorem enumL_get : ∀ {l : List D} {k i : Nat}, (enumL k l)[i]? = l[i]?.map fun d => .tup [.int ((k + i : Nat) : Int), d]
  | [], _, _ => by simp [enumL]
  | d :: l, k, 0 => by simp [enumL]
  | d :: l, k, i + 1 => by
    rw [enumL, List.getElem?_cons_succ, List.getElem?_cons_succ, enumL_get]
    have e : k + 1 + i = k + (i + 1) := by omega
    rw [e]
theorem enumL_len : ∀ {l : List D} {k : Nat}, (enumL k l).length = l.length
  | [], _ => rfl
  | d :: l, k => by rw [enumL, List.length_cons, List.length_cons, enumL_len]
def iEnm (a : SE) : SI := fun ρ => (a ρ).bind fun v ρ1 => match v with
  | .imm (.lst l) => .ok (enumL 0 l) ρ1
  | .imm (.tup l) => .ok (enumL 0 l) ρ1
  | _ => .fail
theorem enm_pair {H : Hp} {T : Addr} {n : Nat} {x : V} {d : D} (hT : H T = none) (r : RI K H d x) : RI K (upd H T (.tup [.int (n : Nat), x])) (.tup [.int ((0 + n : Nat) : Int), d]) (.ref T) ∧ Grow (fun _ => False) H (upd H T (.tup [.int (n : Nat), x])) := by
  have g : Grow (fun _ => False) H (upd H T (.tup [.int (n : Nat), x])) := ⟨fun b o e => by rw [upd_ne (ne_of_none e hT)]; exact e, fun _ z => z.elim⟩
  refine ⟨⟨T, _, rfl, upd_same, ?_⟩, g⟩
  rw [Nat.zero_add]
  exact ⟨_, _, rfl, rfl, _, _, rfl, RI.mono g.ext r, rfl⟩
theorem sdi_enm {ta : TE} {a : SE} (ha : SdE K mg W ta a) : SdI K mg W (iEnumA K (tCons ta tNil)) (iEnm a) := by
  intro P σ H F ρ R E h
  refine ha P σ H F ρ _ E ?_
  unfold iEnm at h
  cases ea : a ρ with
  | fail => rw [ea] at h; exact h
  | exc x ρ1 => rw [ea] at h; exact h
  | ok v ρ1 =>
    rw [ea, Out.bind_ok] at h
    intro u H1 F1 S1 E1 R1 dj1 f1
    split at h
    · rename_i l
      obtain ⟨a, vs, e, hl, rs⟩ := R1
      subst e
      refine ⟨a, vs, rfl, .inl ⟨hl.sq, (h.from f1) _ H1 F1 (fun _ => False) E1 (fun H2 x2 i => ?_) (fun _ _ _ z => z) (addS (Frm.refl _ _))⟩⟩
      rw [enumL_len]
      refine ⟨fun hi => ?_, fun hi => ⟨vs, (hl.mono x2).sq, by rw [rs.length]; exact hi⟩, fun x H3 hi y => ?_⟩
      · exact ⟨vs, vs[i]'(by rw [rs.length]; exact hi), (hl.mono x2).sq, by simp [rs.length, hi]⟩
      · obtain ⟨T, z, e1, hT, e2, fz⟩ := y
        subst e1 e2
        have hx := fz vs (hl.mono x2).sq
        obtain ⟨v, hv, rv⟩ := rs.get (i := i) (d := l[i]) (by simp [hi])
        rw [hv] at hx
        cases hx
        exact ⟨_, by rw [enumL_get, List.getElem?_eq_getElem hi]; rfl, enm_pair hT (RI.mono x2 rv)⟩
    · rename_i l
      obtain ⟨a, vs, e, hl, rs⟩ := R1
      subst e
      refine ⟨a, vs, rfl, .inr ⟨SqT.of hl, (h.from f1) _ H1 F1 (fun _ => False) E1 (fun H2 x2 i => ?_) (fun _ _ _ z => z) (addS (Frm.refl _ _))⟩⟩
      rw [enumL_len]
      refine ⟨fun hi => ?_, fun hi => ⟨vs, SqT.of (x2.t _ _ hl), by rw [rs.length]; exact hi⟩, fun x H3 hi y => ?_⟩
      · exact ⟨vs, vs[i]'(by rw [rs.length]; exact hi), SqT.of (x2.t _ _ hl), by simp [rs.length, hi]⟩
      · obtain ⟨T, z, e1, hT, e2, fz⟩ := y
        subst e1 e2
        have hx := fz vs (SqT.of (x2.t _ _ hl))
        obtain ⟨v, hv, rv⟩ := rs.get (i := i) (d := l[i]) (by simp [hi])
        rw [hv] at hx
        cases hx
        exact ⟨_, by rw [enumL_get, List.getElem?_eq_getElem hi]; rfl, enm_pair hT (RI.mono x2 rv)⟩
    · exact h.elim
theorem pid_enum {e : Expr} {a : SE} {p pos tpos : Pos} {elts : List Expr} {kk : Nat} (hm : X.mg "enumerate" = none) (ha : PEd X W e a) (hg : Gl X "enumerate" := by rfl) (hs : starEach [e] X.env = [(false, eval e X.env)] := by rfl) :
    PId X W (.Tuple elts kk tpos) (.Call (.Name "enumerate" p) [e] [] pos) (iEnm a) := by
  obtain ⟨ta, a1, a2⟩ := ha
  exact ⟨_, pi_enumA hg hm (pa_cons a1 pa_nil hs) hs, sdi_enm a2⟩
/-! ### x.pop(), x.clear() -/
def ePop (i : Nat) : SE := fun ρ => match owS i ρ with
  | some (.lst l) => match l.getLast? with
    | some d => match reS i (.lst l.dropLast) ρ with
      | some ρ' => .ok (.imm d) ρ'
      | none => .fail
    | none => .fail
  | _ => .fail
theorem RIs.dropLast {H : Hp} : ∀ {l : List D} {vs : List V}, RIs K H l vs → RIs K H l.dropLast vs.dropLast
  | [], _, h => by cases h; exact rfl
  | [d], _, ⟨v, r, e, q, h⟩ => by cases h; subst e; exact rfl
  | d :: d2 :: l, _, ⟨v, r, e, q, v2, r2, e2, q2, h⟩ => by
    subst e e2
    exact ⟨v, _, rfl, q, RIs.dropLast ⟨v2, r2, rfl, q2, h⟩⟩
theorem pd_pop (i : Nat) {x : Str} {apos cpos p : Pos} (hN : X.N[i]? = some x := by rfl) (hvs : Vis X.env.scope x := by first | exact Or.inl rfl | exact Or.inr (Or.inl rfl) | exact Or.inr (Or.inr rfl))
    (hd : (x == ("__debug__" : Str)) = false := by decide) (hcd : (x == ("__classdict__" : Str)) = false := by decide)
    (hbase : attributeBase (.Name x p) "pop" X.env (eval (.Name x p) X.env) = eval (.Name x p) X.env := by rfl) (hline : (apos.endLine == cpos.line) = true := by rfl) : PEd X W (.Call (.Attribute (.Name x p) "pop" apos) [] [] cpos) (ePop i) := by
  refine ⟨_, pe_bm0 PySem.F.plainAttrs_list PySem.F.slot_list_pop PySem.F.type_list_pop (show MtR X "list.pop" rPop from mt_pop) (pe_var hN hvs hd hcd) hbase hline, ?_⟩
  intro P σ H F ρ Q E h
  unfold ePop at h
  split at h
  · rename_i l q0
    split at h
    · rename_i d hy
      cases e4 : reS i (.lst l.dropLast) ρ with
      | none => simp only [e4] at h; exact h.elim
      | some ρ' =>
        simp only [e4] at h
        obtain ⟨hi, v, hv, p, vs, ev, hF, hp, rs⟩ := owS_ok E q0
        subst ev
        obtain ⟨n1, n2⟩ := ne_mut hp trivial
        rw [List.getLast?_eq_getElem?] at hy
        obtain ⟨u, hu, ru⟩ := rs.get hy
        refine ⟨.ref p, hv, .inl ⟨rfl, _, SqL.of hp⟩, p, vs, u, rfl, rfl, hp, by rw [rs.length]; exact hu, ?_⟩
        have fr : Frm (PF.Un F) (PF.Un F) H (upd H p (.lst vs.dropLast)) := Frm.upd1 ⟨i, hF⟩ (by rw [hp]; exact fun z => nomatch z) n1 n2
        exact h u _ F (fun _ => False) (reS_ok E e4 hF n1 n2 hv ⟨p, _, rfl, hF, upd_same, (RIs.mono fr.ext rs).dropLast⟩) (RI.mono fr.ext ru) (fun _ _ _ z => z) (addS fr)
    · exact h.elim
  · exact h.elim
def sClr (i : Nat) : SS := fun ρ => match owS i ρ with
  | some (.lst l) => match reS i (.lst []) ρ with
    | some ρ' => .nx ρ'
    | none => .fail
  | _ => .fail
theorem psd_clr (i : Nat) {x : Str} {apos cpos p pos : Pos} (hN : X.N[i]? = some x := by rfl) (hvs : Vis X.env.scope x := by first | exact Or.inl rfl | exact Or.inr (Or.inl rfl) | exact Or.inr (Or.inr rfl))
    (hd : (x == ("__debug__" : Str)) = false := by decide) (hcd : (x == ("__classdict__" : Str)) = false := by decide) (hs : swapsWith (.Call (.Attribute (.Name x p) "clear" apos) [] [] cpos) none pos.line X.env = pure false := by rfl)
    (hbase : attributeBase (.Name x p) "clear" X.env (eval (.Name x p) X.env) = eval (.Name x p) X.env := by rfl) (hline : (apos.endLine == cpos.line) = true := by rfl) : PSd X W (.Expr (.Call (.Attribute (.Name x p) "clear" apos) [] [] cpos) pos) (sClr i) := by
  refine ⟨_, ps_expr (pe_bm0 PySem.F.plainAttrs_list PySem.F.slot_list_clear PySem.F.type_list_clear (show MtR X "list.clear" rClear from mt_clear) (pe_var hN hvs hd hcd) hbase hline) hs, ?_⟩
  intro P σ H F ρ D0 E h
  unfold sClr at h
  split at h
  · rename_i l q0
    cases e4 : reS i (.lst []) ρ with
    | none => simp only [e4] at h; exact h.elim
    | some ρ' =>
      simp only [e4] at h
      obtain ⟨hi, v, hv, p, vs, ev, hF, hp, rs⟩ := owS_ok E q0
      subst ev
      obtain ⟨n1, n2⟩ := ne_mut hp trivial
      refine ⟨.ref p, hv, .inl ⟨rfl, _, SqL.of hp⟩, p, vs, rfl, rfl, hp, ?_⟩
      have fr : Frm (PF.Un F) (PF.Un F) H (upd H p (.lst [])) := Frm.upd1 ⟨i, hF⟩ (by rw [hp]; exact fun z => nomatch z) n1 n2
      exact h σ _ F (reS_ok E e4 hF n1 n2 hv ⟨p, _, rfl, hF, upd_same, rfl⟩) fr
  · exact h.elim
end
/-- a promise that nobody can ask for -/
theorem fn_none {P : Program} {w : World} {K : PySem.W.Frag} {mg : Str → Option Value} {base : Heap} {CX : CXT} {k n : Nat} {f : Addr} {fd : FuncData} {ps : List Str} : FnOk P w K mg base CX k f fd ps (fsp K mg n fun _ => .fail) :=
  ⟨fun vs H Q E ⟨_, _, _, _, h⟩ => h.elim, fun A outer s H args us vs Q E _ _ _ _ ⟨_, _, _, _, h⟩ => h.elim⟩
theorem fail_len {n : Nat} : ∀ as : List Ar, (fun _ => FOut.fail) as ≠ .fail → as.length = n := fun as h => absurd rfl h
end PF
namespace PF
open PySem L2
/-- x.extend(e), what it comes to -/
theorem sExt_ok {i : Nat} {a : SE} {ρ ρ1 : Env} {l0 l m : List D} (h0 : owS i ρ = some (.lst l0)) (ha : a ρ = .ok (.own (.lst m)) ρ1) (h1 : owS i ρ1 = some (.lst l)) (hl : l.length + m.length ≤ big) : sExt i a ρ = nxK (reS i (.lst (l ++ m)) ρ1) := by
  unfold sExt
  rw [h0]
  dsimp only
  rw [ha]
  dsimp only
  rw [h1]
  dsimp only
  rw [if_pos hl]
  cases reS i (.lst (l ++ m)) ρ1 <;> rfl
end PF
namespace PF
open PySem L2
theorem ePop_ok {i : Nat} {ρ ρ' : Env} {l : List D} {d : D} (h0 : owS i ρ = some (.lst l)) (hd : l.getLast? = some d) (hr : reS i (.lst l.dropLast) ρ = some ρ') : ePop i ρ = .ok (.imm d) ρ' := by
  unfold ePop
  rw [h0]
  dsimp only
  rw [hd]
  dsimp only
  rw [hr]
theorem sClr_ok {i : Nat} {ρ ρ' : Env} {l : List D} (h0 : owS i ρ = some (.lst l)) (hr : reS i (.lst []) ρ = some ρ') : sClr i ρ = .nx ρ' := by
  unfold sClr
  rw [h0]
  dsimp only
  rw [hr]
/-- a comprehension with a test that changes nothing but its own slot -/
theorem lcL_fm {i : Nat} {c : ST} {e : SE} {ρ : Env} (p : D → Bool) (f : D → D) (hi : i < ρ.length) (h0 : ρ[i]? = some .non) : ∀ (l acc : List D), (∀ d ∈ l, c (ρ.set i (.imm d)) = .ok (p d) (ρ.set i (.imm d))) → (∀ d ∈ l, e (ρ.set i (.imm d)) = .ok (.imm (f d)) (ρ.set i (.imm d))) → acc.length + l.length ≤ big →
    lcL (.nm i) c e l acc ρ = .ok (acc ++ (l.filter p).map f) ρ
  | [], acc, _, _, _ => by rw [List.filter_nil, List.map_nil, List.append_nil]; rfl
  | d :: l, acc, hc, he, hl => by
    have e1 : setT (.nm i) d ρ = some (ρ.set i (.imm d)) := by
      unfold setT
      rw [h0]
    have e2 : wipeE (ρ.set i (.imm d)) (tgS (.nm i)) = ρ := by
      show (ρ.set i (.imm d)).set i .non = ρ
      rw [List.set_set, set_same h0]
    rw [List.length_cons] at hl
    unfold lcL
    rw [e1]
    dsimp only
    rw [hc d List.mem_cons_self, Out.bind_ok]
    cases hp : p d with
    | true =>
      rw [if_pos rfl, he d List.mem_cons_self, Out.bind_ok]
      dsimp only
      rw [if_pos (by omega), e2, lcL_fm p f hi h0 l _ (fun d' hd => hc d' (List.mem_cons_of_mem _ hd)) (fun d' hd => he d' (List.mem_cons_of_mem _ hd)) (by rw [List.length_append, List.length_singleton]; omega), List.filter_cons_of_pos hp, List.append_assoc]
      rfl
    | false =>
      rw [if_neg (by decide), e2, lcL_fm p f hi h0 l _ (fun d' hd => hc d' (List.mem_cons_of_mem _ hd)) (fun d' hd => he d' (List.mem_cons_of_mem _ hd)) (by omega), List.filter_cons_of_neg (by rw [hp]; decide)]
end PF

/-! two names at once, {} of tuple keys, sorted(set(pairs)), dict(pairs) -/
namespace PF
open PySem PySem.Spec PyProof.Rows
open L2
section
variable {X : Cx} {W : WX} {K : PySem.W.Frag} {mg : Str → Option Value}
theorem Ctx.u64x {k : Nat} (C : Ctx X W k) : X.A.units + 64 < cLine := by have := C.u64; omega
/-! ### a, b = x, y -/
def sPar (i j : Nat) (a : SA) : SS := fun ρ => match a ρ with
  | .ok [.imm d, .imm e] ρ1 => match putS i (.imm d) ρ1 with
    | some ρ2 => match putS j (.imm e) ρ2 with
      | some ρ3 => .nx ρ3
      | none => .fail
    | none => .fail
  | .ok _ _ => .fail
  | .exc x ρ1 => .exc x ρ1
  | .fail => .fail
theorem sd_par {ta : TA} {a : SA} (i j : Nat) (ha : SdA K mg W ta a) : SdS K mg W (tPar i j ta) (sPar i j a) := by
  intro P σ H F ρ D E h
  refine ha P σ H F ρ _ E ?_
  unfold sPar at h
  cases ea : a ρ with
  | fail => rw [ea] at h; exact h
  | exc x ρ1 => rw [ea] at h; exact fun cls d H1 F1 E1 r f => h cls d σ H1 F1 E1 r f
  | ok vs ρ1 =>
    rw [ea] at h
    intro us H1 F1 S1 E1 R1 dj1 f1
    split at h
    · rename_i d e ρ1' hq
      cases hq
      obtain ⟨u, r, rfl, ru, u2, r2, rfl, ru2, rfl⟩ := R1
      refine ⟨u, u2, rfl, ?_⟩
      cases q : putS i (.imm d) ρ1 with
      | none => rw [q] at h; exact h.elim
      | some ρ2 =>
        rw [q] at h
        obtain ⟨hi, rfl⟩ := putS_ok q
        obtain ⟨F2, E2, sub⟩ := E1.setI hi ru
        dsimp only at h
        cases q2 : putS j (.imm e) (ρ1.set i (.imm d)) with
        | none => rw [q2] at h; exact h.elim
        | some ρ3 =>
          rw [q2] at h
          obtain ⟨hj, rfl⟩ := putS_ok q2
          obtain ⟨F3, E3, sub3⟩ := E2.setI hj ru2
          exact h _ H1 F3 E3 (f1.less fun a z => .inl (sub a (sub3 a z)))
    · exact h.elim
    · rename_i hq; cases hq
    · rename_i hq; cases hq
theorem psd_par {i j : Nat} {x y : Str} {a b : Expr} {sa : SA} {px py pt pos : Pos} {kt k2 pt2} {k : Nat} (C : Ctx X W k) (ha : PAd X W [a, b] sa) (hi : X.N[i]? = some x := by rfl) (hj : X.N[j]? = some y := by rfl) (hij : i ≠ j := by decide)
    (hx : X.env.scope.names.lookup x = some .local := by rfl) (hy : X.env.scope.names.lookup y = some .local := by rfl)
    (hw : swappedStores [.Tuple [.Name x px, .Name y py] kt pt] (.Tuple [a, b] k2 pt2) X.env = pure (some [x, y]) := by rfl)
    (hs : swapsWithSole [.Tuple [.Name x px, .Name y py] kt pt] (.Tuple [a, b] k2 pt2) pos.line X.env = pure false := by rfl) :
    PSd X W (.Assign [.Tuple [.Name x px, .Name y py] kt pt] (.Tuple [a, b] k2 pt2) pos) (sPar i j sa) := by
  obtain ⟨ta, a1, a2⟩ := ha
  exact ⟨_, ps_par C.calm C.nd hi hj hij hx hy a1 hw hs, sd_par i j a2⟩

/-! ### {} -/
def eNewT : SE := fun ρ => .ok (.own (.dcT [])) ρ
theorem NewQ.own {H : Hp} {d : D} {p : Addr} {o : HO} {Q : VK} (h : NewQ K H (.own d) Q) (hp : H p = none) (r : ∀ H', Ext H H' → H' p = some o → OwnR K H' (fun a => a = p) d (.ref p)) : Q (.ref p) (upd H p o) := by
  have g : Grow (fun a => a = p) H (upd H p o) := ⟨fun b o e => by rw [upd_ne (ne_of_none e hp)]; exact e, fun a z => z ▸ hp⟩
  exact h _ _ (fun a => a = p) ⟨r _ g.ext upd_same, fun a z => by rw [z, upd_same]; exact fun z => nomatch z⟩ g
theorem sd_newT : SdE K mg W tDNewT eNewT := fun P σ H F ρ Q E h p hp =>
  NewQ.own (PostO.new E h) hp fun H' _ e => ⟨p, [], rfl, rfl, e, rfl⟩
theorem pd_newT {pos : Pos} : PEd X W (.Dict [] [] pos) eNewT := ⟨_, pe_dnewT, sd_newT⟩

/-! ### dict(pairs), the keys tuples -/
theorem RIs.getV {H : Hp} : ∀ {l : List D} {vs : List V} {i : Nat} {v : V}, RIs K H l vs → vs[i]? = some v → ∃ d, l[i]? = some d ∧ RI K H d v
  | [], _, _, _, h, e => by cases h; simp at e
  | d :: _, _, 0, _, ⟨v, _, e, r, _⟩, h => by rw [e] at h; simp at h; subst h; exact ⟨d, rfl, r⟩
  | _ :: _, _, i + 1, _, ⟨_, _, e, _, r⟩, h => by
    rw [e] at h
    obtain ⟨d, h1, h2⟩ := RIs.getV (i := i) r (by simpa using h)
    exact ⟨d, by simpa using h1, h2⟩
def mergeT (kvs more : List (List Key × V)) : List (List Key × V) := more.foldl (fun acc kv => putK acc kv.1 kv.2) kvs
theorem KT.mergeT {H : Hp} : ∀ {more : List (List Key × V)} {rs : List (List Key × Addr × Value)} {kvs : List (List Key × V)} {vs : List (List Key × Addr × Value)}, L2.KT H more rs → L2.KT H kvs vs → L2.KT H (PF.mergeT kvs more) (storedAllH vs rs) := by
  intro more rs kvs vs r
  unfold L2.KT at r
  induction r generalizing kvs vs with
  | nil => exact fun h => h
  | @cons p q ps qs h t ih =>
    intro hk
    obtain ⟨h1, h2, h3⟩ := h
    have := ih (kvs := putK kvs p.1 p.2) (vs := storedH vs p.1 q.2.1 q.2.2) (L2.KT.put hk p.1 h2 h3)
    rw [h1] at this
    simpa [PF.mergeT, storedAllH, h1] using this
theorem len_putK (kvs : List (List Key × V)) (k : List Key) (v : V) : (putK kvs k v).length ≤ kvs.length + 1 := by
  unfold putK; split <;> simp
theorem len_mergeT : ∀ (more kvs : List (List Key × V)), (PF.mergeT kvs more).length ≤ kvs.length + more.length
  | [], _ => Nat.le_refl _
  | p :: more, kvs => by
    have h1 := len_mergeT more (putK kvs p.1 p.2)
    have h2 := len_putK kvs p.1 p.2
    show (PF.mergeT (putK kvs p.1 p.2) more).length ≤ _
    simp only [List.length_cons]; omega
/-- the pairs, as the library wants them -/
theorem pairsT_of {pins : List (Addr × Obj)} {σ : L2.St} {H : Hp} {s : Shared} (I : Inv X pins σ H s) : ∀ {ps : List Addr} {kvs : List (List Key × V)}, Paired (fun p kv => ∃ q, SqT X.K H p [.ref q, kv.2] ∧ H q = some (.tup (kv.1.map kV))) ps kvs →
    ∃ prs : List (List Key × Addr × Value), L2.KT H kvs prs ∧ prs.length = ps.length ∧ ∀ (j : Nat) (x : List Key × Addr × Value), prs[j]? = some x → ∃ b, ps[j]? = some b ∧ s.heap.IsTuple b #[.ref x.2.1, x.2.2]
  | _, _, .nil => ⟨[], .nil, rfl, fun j q e => by simp at e⟩
  | _, _, .cons (a := p) (b := kv) ⟨q, h, hq⟩ t => by
    obtain ⟨prs, r, hl, hp⟩ := pairsT_of I t
    obtain ⟨its, rv, ht, _⟩ := I.tuple h
    obtain ⟨u, y, ei, ru, ry⟩ := vals2 rv
    subst ei
    cases ru
    refine ⟨(kv.1, q, y) :: prs, .cons ⟨rfl, hq, ry⟩ r, by rw [List.length_cons, List.length_cons, hl], fun j x e => ?_⟩
    cases j with
    | zero =>
      have e' : (kv.1, q, y) = x := Option.some.inj e
      subst e'
      obtain ⟨o, h1, h2, n, h3⟩ := ht
      exact ⟨p, rfl, ⟨o, h1, h2, n, h3⟩⟩
    | succ j =>
      obtain ⟨b, e1, e2⟩ := hp j x (by simpa using e)
      exact ⟨b, by simpa using e1, e2⟩
theorem call_dictPT (hc : X.calm = true) (hu : X.A.units + 64 < cLine) : CallR X (.type "dict") (fun xs H Q => ∃ (a : Addr) (ps : List Addr) (kvs : List (List Key × V)), xs = [.ref a] ∧ SqL X.K H a (ps.map V.ref) ∧ Paired (fun p kv => ∃ q, SqT X.K H p [.ref q, kv.2] ∧ H q = some (.tup (kv.1.map kV))) ps kvs ∧
    ∀ p, H p = none → Q (.ref p) (upd H p (.dT (PF.mergeT [] kvs)))) := by
  intro pins s σ H xs us Q I r q
  obtain ⟨a, ps, kvs, ex, hq, hp, q⟩ := q
  subst ex
  obtain ⟨u, eu, rx⟩ := vals1 r
  subst eu
  cases rx
  obtain ⟨its, rv, pl, hz⟩ := I.list hq
  have ei := refs_at rv
  subst ei
  rw [List.length_map] at hz
  obtain ⟨prs, rel, hl, hpr⟩ := pairsT_of I hp
  have hkv : kvs.length = prs.length := Paired.length rel
  obtain ⟨o, n, ho, hcl, hd, hdat⟩ := pl
  have hitems : (ps.map Value.ref).toArray.size = (prs.map fun x => (Value.ref x.2.1, x.2.2)).length := by simp [hl]
  have keys : ∀ x ∈ prs, (tupleKind (mixKind X.prog X.w)).is s.heap x.1 x.2.1 := by
    intro x hx
    have all : ∀ {l : List (List Key × V)} {m : List (List Key × Addr × Value)}, L2.KT H l m → ∀ x ∈ m, (tupleKind (mixKind X.prog X.w)).is s.heap x.1 x.2.1 := by
      intro l m q
      unfold L2.KT at q
      induction q with
      | nil => intro x hx; exact nomatch hx
      | @cons p q ps qs hq t ih =>
        intro x hx
        rcases List.mem_cons.mp hx with e | hx
        · subst e
          exact key_of I.hok (by rw [← hq.1]; exact hq.2.1)
        · exact ih x hx
    exact all rel x hx
  refine call_dict_pairsH (knd := tupleKind (mixKind X.prog X.w)) (ps := prs) (PairArg.list a (ps.map Value.ref).toArray (fun j => (ps[j]?).getD 0) (prs.map fun x => (Value.ref x.2.1, x.2.2)))
    (I.ok.hd hc) ?_ ⟨⟨o, n, ho, hcl, hd, hdat⟩, hitems, fun j k v e => ?_⟩ ⟨by simp, fun i key v e => ?_⟩ ?_ (by rw [List.length_map, hl]; exact hz) fun h' tk hd' k => ?_
  · exact tupleKind_room_in1 (A := X.A.in1) (by show X.A.units + 1 + 1 < cLine; omega)
  · rw [List.getElem?_map] at e
    cases e2 : prs[j]? with
    | none => rw [e2] at e; cases e
    | some x =>
      rw [e2] at e
      cases e
      obtain ⟨b, e1, e3⟩ := hpr j x e2
      exact ⟨by simp [e1], .inl (by show s.heap.IsTuple ((ps[j]?).getD 0) _; rw [e1]; exact e3)⟩
  · have e' : (prs.map fun x => (Value.ref x.2.1, x.2.2))[i]? = some (key, v) := e
    rw [List.getElem?_map] at e'
    cases e2 : prs[i]? with
    | none => rw [e2] at e'; cases e'
    | some x =>
      rw [e2] at e'
      cases e'
      exact ⟨x.1, x.2.1, rfl, rfl⟩
  · intro h' hk x hx
    obtain ⟨o2, its2, n2, g1, g2, g3, g4⟩ := keys x hx
    exact ⟨o2, its2, n2, hk _ _ (Nat.ne_of_lt (Heap.lt_size g1)) (by simp) g1, g2, g3, g4⟩
  · have hm : (s.heap.objs.size == sysModules) = false := beq_eq_false_iff_ne.mpr (Nat.ne_of_gt I.big)
    have hlen : (PF.mergeT [] kvs).length ≤ sizeLine := by
      refine Nat.le_trans (len_mergeT kvs []) ?_
      rw [List.length_nil, Nat.zero_add, hkv, hl]
      exact hz
    have hn := I.hok.fresh (Nat.le_refl s.heap.objs.size)
    have kp : ∀ b o, s.heap.get? b = some o → h'.get? b = some o := fun b o e => k b o (by simp) e
    obtain ⟨od, es, ep, d1, d2, d3, d4, d5, d6⟩ := hd'
    exact ⟨.ref s.heap.objs.size, upd H s.heap.objs.size (.dT (PF.mergeT [] kvs)), I.laid (t' := tk) kp (Nat.le_refl _)
      (show ObjOk X.prog X.w _ _ _ (.dT (PF.mergeT [] kvs)) from ⟨hlen, hm, storedAllH [] prs, (KT.mergeT rel .nil).keeps fun b ys e => by rw [upd_ne (ne_of_none e hn)]; exact e, od, es, ep, d1, d2, d3, d4, d6⟩), rfl, q _ hn⟩
/-- what dict([(k, v), ..]) gives -/
def pairTD : D → Option (List DK × D)
  | .tup [.tup ks, d] => (keysD ks).map fun k => (k, d)
  | _ => none
def pairsTD : List D → Option (List (List DK × D))
  | [] => some []
  | d :: l => match pairTD d, pairsTD l with
    | some p, some ps => some (p :: ps)
    | _, _ => none
def mergeA (l m : List (List DK × D)) : List (List DK × D) := m.foldl (fun acc kv => putA acc kv.1 kv.2) l
def dictTD : D → Option Vl
  | .lst l => match pairsTD l with
    | some ps => some (.own (.dcT (mergeA [] ps)))
    | none => none
  | _ => none
theorem RIt.mergeA {H : Hp} : ∀ {m : List (List DK × D)} {ws : List (List Key × V)} {l : List (List DK × D)} {vs : List (List Key × V)}, RIt K H m ws → RIt K H l vs → RIt K H (PF.mergeA l m) (PF.mergeT vs ws)
  | [], _, _, _, h, k => by cases h; exact k
  | (k0, d) :: m, _, _, _, ⟨v, r, e, q, h⟩, k => by
    rw [e]
    show RIt K H (PF.mergeA (putA _ k0 d) m) (PF.mergeT (putK _ (k0.map toK) v) r)
    exact RIt.mergeA (m := m) h (RIt.put q k)
theorem pairsT_ri {H : Hp} : ∀ {l : List D} {vs : List V} {ps : List (List DK × D)}, pairsTD l = some ps → RIs K H l vs → ∃ as : List Addr, ∃ kvs : List (List Key × V), vs = as.map V.ref ∧ Paired (fun p kv => ∃ q, SqT K H p [.ref q, kv.2] ∧ H q = some (.tup (kv.1.map kV))) as kvs ∧ RIt K H ps kvs
  | [], _, _, h, r => by cases h; cases r; exact ⟨[], [], rfl, .nil, rfl⟩
  | d :: l, _, ps, h, ⟨v, r, e, q, rs⟩ => by
    unfold pairsTD at h
    cases h1 : pairTD d with
    | none => simp [h1] at h
    | some p =>
      cases h2 : pairsTD l with
      | none => simp [h1, h2] at h
      | some ps' =>
        simp [h1, h2] at h
        subst h
        obtain ⟨as, kvs, e1, e2, e3⟩ := pairsT_ri h2 rs
        unfold pairTD at h1
        split at h1
        · rename_i ks d'
          cases h3 : keysD ks with
          | none => rw [h3] at h1; cases h1
          | some k =>
            rw [h3] at h1
            cases h1
            obtain ⟨a, ws, rfl, ha, v1, r1, rfl, ⟨b, bs, rfl, hb, rb⟩, v2, r2, rfl, q2, rfl⟩ := q
            refine ⟨a :: as, (k.map toK, v2) :: kvs, by rw [e, e1]; rfl, .cons ⟨b, SqT.of ha, ?_⟩ e2, ⟨v2, kvs, rfl, q2, e3⟩⟩
            rw [hb, keysD_ok h3 rb]
        · cases h1
theorem call_dictTD (hc : X.calm = true) (hu : X.A.units + 64 < cLine) : ∃ r, CallR X (.type "dict") r ∧ UnD X.K (fun u H Q => r [u] H Q) dictTD := by
  refine ⟨_, call_dictPT hc hu, fun H x u v Q rx e q => ?_⟩
  unfold dictTD at e
  split at e
  · rename_i l
    split at e
    · rename_i ps hps
      cases e
      obtain ⟨a, vs, rfl, h1, r1⟩ := rx
      obtain ⟨as, kvs, e1, e2, e3⟩ := pairsT_ri hps r1
      subst e1
      refine ⟨a, as, kvs, rfl, h1, e2, fun p hp => q.own hp fun H' ex e => ⟨p, _, rfl, rfl, e, RIt.mergeA (RIt.mono ex e3) rfl⟩⟩
    · cases e
  · cases e
end
end PF

/-! sorted(set(pairs of small whole numbers)) -/
namespace PF
open PySem PySem.Spec PyProof.Rows
open L2
abbrev IP := Int × Int
def cdP (p : IP) : Int := p.1 * 64 + p.2
def okPr (p : IP) : Bool := decide (0 ≤ p.1) && decide (p.1 < 64) && decide (0 ≤ p.2) && decide (p.2 < 64)
def insP (a : IP) : List IP → List IP
  | [] => [a]
  | b :: l => if cdP a < cdP b then a :: b :: l else if cdP a = cdP b then b :: l else b :: insP a l
def sortP : List IP → List IP
  | [] => []
  | a :: l => insP a (sortP l)
theorem cdP_inj {a b : IP} (ha : okPr a = true) (hb : okPr b = true) (h : cdP a = cdP b) : a = b := by
  unfold okPr at ha hb
  unfold cdP at h
  simp only [Bool.and_eq_true, decide_eq_true_eq] at ha hb
  have : a.1 = b.1 := by omega
  have : a.2 = b.2 := by omega
  exact Prod.ext ‹_› ‹_›
theorem insP_mem {a : IP} : ∀ {l : List IP}, (∀ x ∈ a :: l, okPr x = true) → ∀ x, x ∈ insP a l ↔ x = a ∨ x ∈ l
  | [], _, x => by simp [insP]
  | b :: l, h, x => by
    unfold insP
    have ha := h a List.mem_cons_self
    have hb := h b (by simp)
    split
    · simp
    · split
      · rename_i _ e
        have := cdP_inj ha hb e
        subst this
        simp
      · have ih := insP_mem (a := a) (l := l) (fun x hx => h x (by rcases List.mem_cons.mp hx with e | e <;> simp [e])) x
        rw [List.mem_cons, ih, List.mem_cons]
        constructor
        · rintro (h | h | h) <;> simp [h]
        · rintro (h | h | h) <;> simp [h]
theorem insP_sort {a : IP} : ∀ {l : List IP}, (∀ x ∈ a :: l, okPr x = true) → l.Pairwise (fun x y => cdP x < cdP y) → (insP a l).Pairwise (fun x y => cdP x < cdP y)
  | [], _, _ => by simp [insP]
  | b :: l, h, hp => by
    unfold insP
    rw [List.pairwise_cons] at hp
    split
    · rename_i hlt
      rw [List.pairwise_cons]
      refine ⟨fun y hy => ?_, List.pairwise_cons.mpr hp⟩
      rcases List.mem_cons.mp hy with e | hy
      · rw [e]; exact hlt
      · exact Int.lt_trans hlt (hp.1 y hy)
    · split
      · exact List.pairwise_cons.mpr hp
      · rename_i h1 h2
        have ok : ∀ x ∈ a :: l, okPr x = true := fun x hx => h x (by rcases List.mem_cons.mp hx with e | e <;> simp [e])
        rw [List.pairwise_cons]
        refine ⟨fun y hy => ?_, insP_sort ok hp.2⟩
        rcases (insP_mem ok y).mp hy with e | hy
        · rw [e]; omega
        · exact hp.1 y hy
theorem sortP_mem : ∀ {l : List IP}, (∀ x ∈ l, okPr x = true) → ∀ x, x ∈ sortP l ↔ x ∈ l
  | [], _, x => by simp [sortP]
  | a :: l, h, x => by
    have h' : ∀ x ∈ l, okPr x = true := fun x hx => h x (by simp [hx])
    unfold sortP
    rw [insP_mem (fun y hy => by
      rcases List.mem_cons.mp hy with e | hy
      · rw [e]; exact h a (by simp)
      · exact h' y ((sortP_mem h' y).mp hy)) x, sortP_mem h' x, List.mem_cons]
theorem sortP_sort : ∀ {l : List IP}, (∀ x ∈ l, okPr x = true) → (sortP l).Pairwise (fun x y => cdP x < cdP y)
  | [], _ => by simp [sortP]
  | a :: l, h => by
    have h' : ∀ x ∈ l, okPr x = true := fun x hx => h x (by simp [hx])
    unfold sortP
    refine insP_sort (fun y hy => ?_) (sortP_sort h')
    rcases List.mem_cons.mp hy with e | hy
    · rw [e]; exact h a (by simp)
    · exact h' y ((sortP_mem h' y).mp hy)
theorem insP_len (a : IP) : ∀ l : List IP, (insP a l).length ≤ l.length + 1
  | [] => by simp [insP]
  | b :: l => by
    have := insP_len a l
    unfold insP; split
    · simp
    · split
      · simp
      · simp; omega
theorem sortP_len : ∀ l : List IP, (sortP l).length ≤ l.length
  | [] => by simp [sortP]
  | a :: l => by
    have h1 := sortP_len l
    have h2 := insP_len a (sortP l)
    unfold sortP; simp; omega
/-- lists in strict order, of the same things, are the same -/
theorem sorted_same {α : Type} (f : α → Int) : ∀ {l m : List α}, l.Pairwise (fun x y => f x < f y) → m.Pairwise (fun x y => f x < f y) → (∀ x, x ∈ l ↔ x ∈ m) → l = m
  | [], [], _, _, _ => rfl
  | [], b :: m, _, _, h => absurd ((h b).mpr List.mem_cons_self) List.not_mem_nil
  | a :: l, [], _, _, h => absurd ((h a).mp List.mem_cons_self) List.not_mem_nil
  | a :: l, b :: m, hl, hm, h => by
    rw [List.pairwise_cons] at hl hm
    have e : a = b := by
      rcases List.mem_cons.mp ((h a).mp List.mem_cons_self) with e | e
      · exact e
      · rcases List.mem_cons.mp ((h b).mpr List.mem_cons_self) with e2 | e2
        · exact e2.symm
        · have h1 := hm.1 a e
          have h2 := hl.1 b e2
          omega
    subst e
    rw [sorted_same f hl.2 hm.2 fun x => ⟨fun hx => by
      rcases List.mem_cons.mp ((h x).mp (List.mem_cons_of_mem _ hx)) with e | e
      · subst e; exact absurd (hl.1 x hx) (Int.lt_irrefl _)
      · exact e, fun hx => by
      rcases List.mem_cons.mp ((h x).mpr (List.mem_cons_of_mem _ hx)) with e | e
      · subst e; exact absurd (hm.1 x hx) (Int.lt_irrefl _)
      · exact e⟩]
def pairI : D → Option IP
  | .tup [.int x, .int y] => some (x, y)
  | _ => none
def pairsI : List D → Option (List IP)
  | [] => some []
  | d :: l => match pairI d, pairsI l with
    | some p, some ps => some (p :: ps)
    | _, _ => none
def encI (p : IP) : D := .tup [.int p.1, .int p.2]
def ssetD : D → Option Vl
  | .lst l => match pairsI l with
    | some ps => if decide (l.length < 64) && ps.all okPr then some (.own (.lst ((sortP ps).map encI))) else none
    | none => none
  | _ => none
section
variable {X : Cx} {W : WX} {K : PySem.W.Frag} {mg : Str → Option Value}
theorem pairsI_ri {H : Hp} : ∀ {l : List D} {vs : List V} {ps : List IP}, pairsI l = some ps → RIs K H l vs → ∃ as : List Addr, vs = (as.zip (ps.map fun p => [p.1, p.2])).map (fun p => V.ref p.1) ∧ as.length = ps.length ∧ ∀ q ∈ as.zip (ps.map fun p => [p.1, p.2]), H q.1 = some (.tup (q.2.map V.int))
  | [], _, _, h, r => by cases h; cases r; exact ⟨[], rfl, rfl, fun q hq => by simp at hq⟩
  | d :: l, _, ps, h, ⟨v, r, e, q, rs⟩ => by
    unfold pairsI at h
    cases h1 : pairI d with
    | none => simp [h1] at h
    | some p =>
      cases h2 : pairsI l with
      | none => simp [h1, h2] at h
      | some ps' =>
        simp [h1, h2] at h
        subst h
        obtain ⟨as, e1, e2, e3⟩ := pairsI_ri h2 rs
        unfold pairI at h1
        split at h1
        · cases h1
          obtain ⟨a, ws, rfl, ha, v1, r1, rfl, e4, v2, r2, rfl, e5, rfl⟩ := q
          cases e4; cases e5
          refine ⟨a :: as, by rw [e, e1]; rfl, by simp [e2], fun q hq => ?_⟩
          rw [List.map_cons, List.zip_cons_cons] at hq
          rcases List.mem_cons.mp hq with e | hq
          · subst e; exact ha
          · exact e3 q hq
        · cases h1
theorem RIs.enc {H : Hp} : ∀ {L : List (Addr × List Int)} {ps : List IP}, L.map (·.2) = ps.map (fun p => [p.1, p.2]) → (∀ q ∈ L, H q.1 = some (.tup (q.2.map V.int))) → RIs K H (ps.map encI) (L.map fun q => V.ref q.1)
  | [], [], _, _ => rfl
  | [], _ :: _, h, _ => by simp at h
  | _ :: _, [], h, _ => by simp at h
  | q :: L, p :: ps, h, hq => by
    rw [List.map_cons, List.map_cons, List.cons.injEq] at h
    have hz := hq q List.mem_cons_self
    rw [h.1] at hz
    exact ⟨_, _, rfl, ⟨q.1, _, rfl, hz, _, _, rfl, rfl, _, _, rfl, rfl, rfl⟩, RIs.enc h.2 fun x hx => hq x (List.mem_cons_of_mem _ hx)⟩
theorem sset_un (P : Program) (w : World) : UnD K (fun u H Q => rSetOfT K P w [u] H fun y H2 => rSortedT K P w [y] H2 Q) ssetD := by
  intro H x u v Q rx e q
  unfold ssetD at e
  split at e
  · rename_i l
    split at e
    · rename_i ps hps
      split at e
      · rename_i hok
        rw [Bool.and_eq_true, decide_eq_true_eq, List.all_eq_true] at hok
        cases e
        obtain ⟨a, vs, rfl, h1, r1⟩ := rx
        obtain ⟨as, e1, e2, e3⟩ := pairsI_ri hps r1
        have hlen := r1.length
        rw [e1, List.length_map] at hlen
        subst e1
        have hps2 : ∀ q ∈ as.zip (ps.map fun p => [p.1, p.2]), ∃ p ∈ ps, q.2 = [p.1, p.2] := fun q hq => by
          have := (List.of_mem_zip (a := q.1) (b := q.2) hq).2
          obtain ⟨p, hp, e⟩ := List.mem_map.mp this
          exact ⟨p, hp, e.symm⟩
        refine ⟨a, as.zip (ps.map fun p => [p.1, p.2]), rfl, h1, fun p hp => SqT.of (e3 p hp), by rw [hlen]; exact hok.1, fun t L ht hsub hall => ?_⟩
        have ht2 : ∀ q ∈ L, (upd H t (SetTO P w t L)) q.1 = some (.tup (q.2.map V.int)) := fun q hq => by
          have z := e3 q (hsub q hq)
          rw [upd_ne (ne_of_none z ht)]; exact z
        refine ⟨t, L, 2, 64, rfl, upd_same, fun p hp => SqT.of (ht2 p hp), by omega, fun q hq => ?_, fun L' p pm nd hl pw hp => ?_⟩
        · obtain ⟨y, hy, ey⟩ := hps2 q (hsub q hq)
          have ok := hok.2 y hy
          unfold okPr at ok
          simp only [Bool.and_eq_true, decide_eq_true_eq] at ok
          rw [ey]
          refine ⟨rfl, fun i hi => ?_⟩
          rcases List.mem_cons.mp hi with e | hi
          · subst e; omega
          · have := List.mem_singleton.mp hi
            subst this; omega
        · have hp1 : H p = none := by
            by_cases e : p = t
            · rw [e, upd_same] at hp; cases hp
            · rw [upd_ne e] at hp; exact hp
          have key : L'.map (·.2) = (sortP ps).map (fun p => [p.1, p.2]) := by
            have okL : ∀ q ∈ L', ∃ y ∈ ps, q.2 = [y.1, y.2] := fun q hq => hps2 q (hsub q (pm.mem_iff.mp hq))
            refine sorted_same (fun k => TS.code 64 k) ?_ ?_ fun k => ?_
            · rw [List.pairwise_map]
              have nd' := List.pairwise_map.mp nd
              refine List.Pairwise.imp_of_mem (R := fun q r => TS.code 64 q.2 ≤ TS.code 64 r.2 ∧ q.2 ≠ r.2) ?_ (pw.and nd')
              intro q r hq hr ⟨hle, hne⟩
              obtain ⟨y, hy, ey⟩ := okL q hq
              obtain ⟨z, hz, ez⟩ := okL r hr
              rw [ey, ez, code_pair, code_pair] at hle
              rw [ey, ez] at hne
              show TS.code 64 q.2 < TS.code 64 r.2
              rw [ey, ez, code_pair, code_pair]
              rcases Int.lt_or_eq_of_le hle with c | c
              · exact c
              · exact absurd (congrArg (fun p : IP => [p.1, p.2]) (cdP_inj (hok.2 y hy) (hok.2 z hz) c)) hne
            · rw [List.pairwise_map]
              refine (sortP_sort hok.2).imp fun h => ?_
              rw [code_pair, code_pair]; exact h
            · rw [List.mem_map, List.mem_map]
              constructor
              · rintro ⟨q, hq, rfl⟩
                obtain ⟨y, hy, ey⟩ := okL q hq
                exact ⟨y, (sortP_mem hok.2 y).mpr hy, ey.symm⟩
              · rintro ⟨y, hy, rfl⟩
                have hy' := (sortP_mem hok.2 y).mp hy
                have : [y.1, y.2] ∈ (as.zip (ps.map fun p => [p.1, p.2])).map (·.2) := by
                  rw [List.map_snd_zip (by rw [List.length_map, e2]; exact Nat.le_refl _)]
                  exact List.mem_map.mpr ⟨y, hy', rfl⟩
                obtain ⟨q, hq, eq⟩ := List.mem_map.mp this
                obtain ⟨r, hr, er⟩ := List.mem_map.mp (hall q hq)
                exact ⟨r, pm.mem_iff.mpr hr, er.trans eq⟩
          have g : Grow (fun a => a = p) H (upd (upd H t (SetTO P w t L)) p (.lst (L'.map fun q => V.ref q.1))) :=
            ⟨fun b o e => by rw [upd_ne (ne_of_none e hp1), upd_ne (ne_of_none e ht)]; exact e, fun a z => z ▸ hp1⟩
          refine q _ _ (fun a => a = p) ⟨⟨p, _, rfl, rfl, upd_same, RIs.enc key fun q hq => ?_⟩, fun a z => by rw [z, upd_same]; exact fun z => nomatch z⟩ g
          exact g.keep _ _ (e3 q (hsub q (pm.mem_iff.mp hq)))
      · cases e
    · cases e
  · cases e
theorem pd_sset {e : Expr} {a : SE} {p1 p2 pos1 pos2 : Pos} {k : Nat} (C : Ctx X W k) (hm : X.mg "sorted" = none) (hm2 : X.mg "set" = none) (ha : PEd X W e a) (hg : Gl X "sorted" := by rfl) (hg2 : Gl X "set" := by rfl)
    (hs : starEach (e :: []) X.env = (false, eval e X.env) :: starEach [] X.env := by rfl) (hpl : (backTo pos2 (starEach [] X.env)).any (·.1) = false := by rfl)
    (hs1 : starEach (.Call (.Name "set" p2) [e] [] pos2 :: []) X.env = (false, eval (.Call (.Name "set" p2) [e] [] pos2) X.env) :: starEach [] X.env := by rfl) (hpl1 : (backTo pos1 (starEach [] X.env)).any (·.1) = false := by rfl) :
    PEd X W (.Call (.Name "sorted" p1) [.Call (.Name "set" p2) [e] [] pos2] [] pos1) (eUn ssetD a) := by
  obtain ⟨te, a1, a2⟩ := ha
  have h1 := pe_callTy (p := p2) (cr_setOfT (X := X) C.calm (by have := C.u64; omega)) hg2 hm2 (by rfl) (pa_cons a1 pa_nil hs) (by decide) (by decide) hs hpl
  exact ⟨_, pe_callB (cr_sortedT (X := X) C.calm) hg hm (by rfl) (pa_cons h1 pa_nil hs1) (by decide) (by decide) hs1 hpl1, sd_un (r := fun u H Q => rSetOfT X.K X.prog X.w [u] H fun y H2 => rSortedT X.K X.prog X.w [y] H2 Q) (sset_un X.prog X.w) a2⟩
end
/-! ### rows for simp -/
section
variable {ρ : Env} {i j : Nat}
def parK2 (j : Nat) (e : D) : Option Env → SOut
  | some ρ => nxK (putS j (.imm e) ρ)
  | none => .fail
def parK (i j : Nat) : Out (List Vl) → SOut
  | .ok [.imm d, .imm e] ρ => parK2 j e (putS i (.imm d) ρ)
  | .ok _ _ => .fail
  | .exc x ρ => .exc x ρ
  | .fail => .fail
theorem x_par (w : SA) : sPar i j w ρ = parK i j (w ρ) := by
  unfold sPar parK
  generalize w ρ = o
  cases o with
  | fail => rfl
  | exc x ρ1 => rfl
  | ok vs ρ1 =>
    rcases vs with _ | ⟨v, _ | ⟨u, _ | ⟨z, r⟩⟩⟩
    · rfl
    · cases v <;> rfl
    · cases v with
      | imm d => cases u with
        | imm e =>
          show (match putS i (.imm d) ρ1 with
            | some ρ2 => match putS j (.imm e) ρ2 with
              | some ρ3 => SOut.nx ρ3
              | none => .fail
            | none => .fail) = parK2 j e (putS i (.imm d) ρ1)
          unfold parK2
          cases putS i (.imm d) ρ1 with
          | none => rfl
          | some ρ2 =>
            dsimp only
            cases putS j (.imm e) ρ2 <;> rfl
        | own _ => rfl
        | ref _ => rfl
      | own _ => rfl
      | ref _ => rfl
    · cases v <;> (try cases u) <;> rfl
theorem x_par1 (d e : D) : parK i j (.ok [.imm d, .imm e] ρ) = parK2 j e (putS i (.imm d) ρ) := rfl
theorem x_par2 (e : D) : parK2 j e (some ρ) = nxK (putS j (.imm e) ρ) := rfl
def enmK : Vl → Env → Out (List D) := fun v ρ1 => match v with
  | .imm (.lst l) => .ok (enumL 0 l) ρ1
  | .imm (.tup l) => .ok (enumL 0 l) ρ1
  | _ => .fail
theorem x_enm (a : SE) : iEnm a ρ = (a ρ).bind enmK := rfl
theorem x_enm1 (l : List D) : enmK (.imm (.lst l)) ρ = .ok (enumL 0 l) ρ := rfl
theorem x_enm2 (l : List D) : enmK (.imm (.tup l)) ρ = .ok (enumL 0 l) ρ := rfl
theorem x_newT : eNewT ρ = .ok (.own (.dcT [])) ρ := rfl
end
end PF

/-! the laws' words -/
namespace PF
open PySem L2
noncomputable def gDraw : List Ar → FOut := runG 2 5 bDraw
noncomputable def bWords : SS :=
    (sSeq (sSet 2 (eC (.str [97, 98, 99, 100, 101, 102, 103, 104, 105, 106, 107, 108, 109, 110, 111, 112, 113, 114, 115, 116, 117, 118, 119, 120, 121, 122])))
    (sSeq (sSet 3 (eM1 isStrD joinD (eC (.str [])) (eLc (iRng (aCons (eCall gDraw (aCons (eVar 0) (aCons (eC (.int 5)) aNil))) aNil)) (.nm 4) stYes (eBin idxD (eVar 2) (eCall gDraw (aCons (eVar 0) (aCons (eC (.int 26)) aNil)))))))
    (sSeq (sSet 5 (eCall gDraw (aCons (eVar 0) (aCons (eBin plusD (eUn lenD (eVar 3)) (eC (.int 1))) aNil))))
    (sSeq (sSet 6 (eCall gDraw (aCons (eVar 0) (aCons (eC (.int 26)) aNil))))
    (sSeq (sSet 7 (eArgs lstD aNil))
    (sSeq (sFor (iRng (aCons (eVar 1) aNil)) (.nm 4) (sSeq (sSet 8 (eBin idxD (eVar 2) (eBin modD (eBin plusD (eVar 6) (eBin timesD (eC (.int 7)) (eVar 4))) (eC (.int 26)))))
    (sSeq (sSet 9 (eBin plusD (eBin plusD (eBin plusD (eBin plusD (eSlc (eVar 3) .no (.at (eVar 5))) (eVar 8)) (eSlc (eVar 3) (.at (eVar 5)) .no)) (eBin timesD (eC (.str [120])) (eBin modD (eVar 4) (eC (.int 2))))) (eBin timesD (eC (.str [121])) (eBin fdivD (eVar 4) (eC (.int 26))))))
    (sSeq (sIf (tV (eBin (memD false) (eVar 9) (eArgs tupD (aCons (eC (.str [109, 97, 100, 101])) (aCons (eC (.str [97, 115, 107, 101, 100])) (aCons (eC (.str [100, 101, 102])) (aCons (eC (.str [116, 97, 98])) (aCons (eC (.str [99, 114, 111, 115, 115])) (aCons (eC (.str [116, 111])) (aCons (eC (.str [110, 117, 109, 98, 101, 114])) aNil)))))))))) (sSet 9 (eBin plusD (eVar 9) (eC (.str [113])))) sPass)
    (sSeq (sIf (tV (eBin (memD false) (eVar 9) (eArgs tupD (aCons (eC (.str [122, 101, 114, 111])) (aCons (eC (.str [108, 101, 116])) (aCons (eC (.str [109, 97, 107, 101])) (aCons (eC (.str [97, 115, 107])) (aCons (eC (.str [99, 97, 115, 101])) (aCons (eC (.str [110, 101, 119])) aNil))))))))) (sSet 9 (eBin plusD (eVar 9) (eC (.str [113])))) sPass)
    (sApp 7 (eFrz (eVar 9))))))))
    (sSeq (sSet 10 (eArgs lstD (aCons (eC (.str [108, 101, 116, 115])) (aCons (eC (.str [97, 115, 107, 115])) (aCons (eC (.str [109, 97, 107, 101, 114])) (aCons (eC (.str [116, 97, 98, 115])) (aCons (eC (.str [116, 111, 111])) (aCons (eC (.str [110, 101, 119, 115])) (aCons (eC (.str [122, 101, 114, 111, 115])) (aCons (eC (.str [99, 97, 115, 101, 121])) (aCons (eC (.str [109, 97, 100, 101, 120])) (aCons (eC (.str [100, 101, 102, 97])) (aCons (eC (.str [110, 117, 109])) (aCons (eC (.str [97, 115, 107, 101, 100, 120])) aNil))))))))))))))
    (sSeq (sSet 9 (eBin idxD (eVar 10) (eCall gDraw (aCons (eVar 0) (aCons (eC (.int 12)) aNil)))))
    (sSeq (sIf (stAnd (tV (eBin eqD (eCall gDraw (aCons (eVar 0) (aCons (eC (.int 3)) aNil))) (eC (.int 1)))) (tV (eBin (memD true) (eVar 9) (eVar 7)))) (sPut 7 (eCall gDraw (aCons (eVar 0) (aCons (eFrz (eVar 1)) aNil))) (eFrz (eVar 9))) sPass)
    (sRet (eVar 7)))))))))))
theorem drawN {d : D} (m : Int) (ok : dealOk d) (hm : 0 < m) (hm2 : m ≤ 4611686018427387904) : ∃ r d', 0 ≤ r ∧ r < m ∧ dealOk d' ∧ gDraw [.mt d, .imm (.int m)] = .ret (.imm (.int r)) [.mt d', .imm (.int m)] := draw_ok ok hm (le8000 hm2)
/-- texts of at most so many signs -/
def TL (n : Nat) (d : D) : Prop := ∃ s, d = .str s ∧ s.length ≤ n
def letters : List Nat := [97, 98, 99, 100, 101, 102, 103, 104, 105, 106, 107, 108, 109, 110, 111, 112, 113, 114, 115, 116, 117, 118, 119, 120, 121, 122]
theorem strs_TL {n : Nat} {l : List (List Nat)} (h : l.all (fun s => decide (s.length ≤ n)) = true) : ∀ d ∈ l.map D.str, TL n d := fun d hd => by
  rw [List.mem_map] at hd
  obtain ⟨s, hs, rfl⟩ := hd
  exact ⟨s, rfl, by simpa using List.all_eq_true.mp h s hs⟩
/-- a core of signs, drawn -/
theorem core_loop {d : D} (ok : dealOk d) (mn : D) (n : Nat) (hn : n ≤ 1000) : ∃ (cs : List Nat) (d' : D), dealOk d' ∧ cs.length = n ∧
    lcL (.nm 4) stYes (eBin idxD (eVar 2) (eCall gDraw (aCons (eVar 0) (aCons (eC (.int 26)) aNil)))) (rngD 0 n) [] [.par d, .imm mn, .imm (.str letters), .non, .non, .non, .non, .non, .non, .non, .non] = .ok (cs.map fun c => .str [c]) [.par d', .imm mn, .imm (.str letters), .non, .non, .non, .non, .non, .non, .non, .non] := by
  have hbig : (1000 : Nat) < big := by decide
  obtain ⟨acc, ρ', e, cs, d', ok', ea, ep, h1⟩ := lcL_go (t := .nm 4) (c := stYes) (e := eBin idxD (eVar 2) (eCall gDraw (aCons (eVar 0) (aCons (eC (.int 26)) aNil)))) (fun k acc ρ => ∃ (cs : List Nat) (d' : D), dealOk d' ∧ acc = (cs.map fun c => D.str [c]) ∧ ρ = [.par d', .imm mn, .imm (.str letters), .non, .non, .non, .non, .non, .non, .non, .non] ∧ cs.length = k)
    (rngD 0 n) 0 [] [.par d, .imm mn, .imm (.str letters), .non, .non, .non, .non, .non, .non, .non, .non] ⟨[], d, ok, rfl, rfl, rfl⟩ (fun j x hx acc ρ h => by
      obtain ⟨cs, d1, ok1, rfl, rfl, h1⟩ := h
      obtain ⟨rfl, hj⟩ := rngD_get hx
      obtain ⟨r, d2, r0, r1, ok2, e⟩ := drawN 26 ok1 (by decide) (by decide)
      obtain ⟨c, hc, _, ec⟩ := idx_str (s := letters) r0 r1 (by decide)
      refine ⟨[.par d1, .imm mn, .imm (.str letters), .non, .imm (.int (0 + j)), .non, .non, .non, .non, .non, .non], rfl, true, _, rfl, fun _ => ⟨by rw [List.length_map]; omega, .str [c], [.par d2, .imm mn, .imm (.str letters), .non, .imm (.int (0 + j)), .non, .non, .non, .non, .non, .non], ?_, cs ++ [c], d2, ok2, by simp, rfl, by rw [List.length_append, h1]; rw [List.length_singleton]⟩, fun z => nomatch z⟩
      simp -implicitDefEqProofs only [x_var, x_vi, x_vo, x_vp, x_c, x_rdi, x_rdo, x_rdr, x_rki, x_rko, x_rkp, x_opt, x_bin, x_bin1, x_bin2, x_bin3, x_un, x_un1, x_un2, x_frz, x_fzi, x_fzo, x_fzr, x_fki, x_fko, x_fzl, x_fzd, x_fzt, x_args, x_args1, x_args2, x_im0, x_im1, x_nil, x_cons, x_cons1, x_cons2, x_cons3, x_call, x_call1, x_call2, x_call3, x_call4, x_ta0, x_ta1, x_ta2, x_tk1, x_tk2, x_tk3, x_rf0, x_rf1, x_rf2, x_nd0, x_nd1, x_nd2, x_wb0, x_wb1, x_po0, x_po1, x_po2, x_w0, x_w1, x_w2, x_w3, x_wk1, x_wk2, x_tV, x_tV1, x_tr, x_tr1, x_tr2, x_tr3, x_not, x_not1, x_and, x_and1, x_and2, x_or, x_or1, x_or2, x_andV, x_andV1, x_andV2, x_orV, x_orV1, x_orV2, x_notV, x_notV1, x_if, x_if1, x_if2, x_pno, x_pat, x_pat1, x_slc, x_slc1, x_slc2, x_slc3, x_m1, x_m11, x_m12, x_isS, x_iof, x_iof1, x_iof2, x_itl, x_itt, x_its, x_rng, x_rng1, x_rng2, x_lc, x_lc1, x_lc2, x_tg1, x_wi0, x_wi1, x_re0, x_re1, x_gk, x_ia0, x_ia1, x_ii1, x_ii2, x_seq, x_seq1, x_seq2, x_seq3, x_seq4, x_seq5, x_pass, x_brk, x_cont, x_retN, x_nxK, x_put, x_pk1, x_pk2, x_pk3, x_set, x_set1, x_set2, x_set3, x_asg, x_asg1, x_setN, x_setTp, x_sts0, x_sts1, x_sts2, x_ifS, x_ifS1, x_ifS2, x_ret, x_ret1, x_ret2, x_exp, x_exp1, x_exp2, x_ow, x_ow1, x_ow2, x_rs, x_rs1, x_rs2, x_app, x_app1, x_app2, x_app3, x_sput, x_sput1, x_sput2, x_sput3, x_sput4, x_sput5, x_for, x_for1, x_run, x_fin1, x_fin2, x_fin3, x_fin4, x_fin5, x_rvi, x_rvo, x_rvr, x_rk1, x_rk2, x_ba0, x_ba1, x_ba2, x_se, x_si, x_sm, x_tupD, x_lstD, x_plusS, x_plusL, x_lenS, x_lenL, x_lenT, x_sub, x_lt, x_gt, x_le, x_ge, x_neg, x_revs, x_neB, x_eqB, x_tB, x_pkn, x_iin, x_slcS, x_slcL, x_slcT, x_memT, x_memL, x_yes, x_tms, x_mod, x_fdiv, x_sm62, x_big, x_bigL, Out.bind_ok, Out.bind_exc, Out.bind_fail, List.getElem?_cons_zero, List.getElem?_cons_succ, List.set_cons_zero, List.set_cons_succ, plusI, eqI, Option.map_some, Option.map_none, List.length_cons, List.length_nil, Nat.zero_add, Nat.add_zero, List.map_cons, List.map_nil, reduceIte, if_true, if_false, Nat.reduceAdd, Nat.reduceSub, Nat.reduceLeDiff, List.replicate_succ, List.replicate_zero, List.cons_append, List.nil_append, Bool.false_eq_true, Bool.not_true, Bool.not_false, List.getElem?_nil, Bool.and_true, Bool.true_and, bne_iff_ne, ne_eq, Nat.succ_ne_zero, not_false_eq_true, not_true_eq_false, reduceCtorEq, Nat.add_one_sub_one, eq_self, Int.reduceLT, Int.reduceLE, Int.reduceNeg, Int.reduceAdd, Int.reduceSub, Int.reduceMul, Int.reduceEq, Int.reduceBEq, Int.reduceBNe, Int.reduceMod, Int.reduceDiv, Nat.reduceEqDiff, Int.reduceToNat, decide_true, decide_false, true_and, and_true, and_self, Bool.and_self, e, ec])
  rw [rngD_len, Nat.zero_add] at h1
  subst ea ep
  exact ⟨cs, d', ok', h1, e⟩
def wBody : SS := (sSeq (sSet 8 (eBin idxD (eVar 2) (eBin modD (eBin plusD (eVar 6) (eBin timesD (eC (.int 7)) (eVar 4))) (eC (.int 26)))))
    (sSeq (sSet 9 (eBin plusD (eBin plusD (eBin plusD (eBin plusD (eSlc (eVar 3) .no (.at (eVar 5))) (eVar 8)) (eSlc (eVar 3) (.at (eVar 5)) .no)) (eBin timesD (eC (.str [120])) (eBin modD (eVar 4) (eC (.int 2))))) (eBin timesD (eC (.str [121])) (eBin fdivD (eVar 4) (eC (.int 26))))))
    (sSeq (sIf (tV (eBin (memD false) (eVar 9) (eArgs tupD (aCons (eC (.str [109, 97, 100, 101])) (aCons (eC (.str [97, 115, 107, 101, 100])) (aCons (eC (.str [100, 101, 102])) (aCons (eC (.str [116, 97, 98])) (aCons (eC (.str [99, 114, 111, 115, 115])) (aCons (eC (.str [116, 111])) (aCons (eC (.str [110, 117, 109, 98, 101, 114])) aNil)))))))))) (sSet 9 (eBin plusD (eVar 9) (eC (.str [113])))) sPass)
    (sSeq (sIf (tV (eBin (memD false) (eVar 9) (eArgs tupD (aCons (eC (.str [122, 101, 114, 111])) (aCons (eC (.str [108, 101, 116])) (aCons (eC (.str [109, 97, 107, 101])) (aCons (eC (.str [97, 115, 107])) (aCons (eC (.str [99, 97, 115, 101])) (aCons (eC (.str [110, 101, 119])) aNil))))))))) (sSet 9 (eBin plusD (eVar 9) (eC (.str [113])))) sPass)
    (sApp 7 (eFrz (eVar 9)))))))
theorem word_step {d mn : D} {core : List Nat} (hc : core.length ≤ 10) {at' turn k : Int} (hk : 0 ≤ k) (hk2 : k ≤ 100) {acc : List D} (ha : acc.length ≤ 1000) {s8 s9 : Sl} (h8 : nim s8) (h9 : nim s9) :
    ∃ o w, w.length ≤ 50 ∧ wBody [.par d, .imm mn, .imm (.str letters), .imm (.str core), .imm (.int k), .imm (.int at'), .imm (.int turn), .own (.lst acc), s8, s9, .non] = .nx [.par d, .imm mn, .imm (.str letters), .imm (.str core), .imm (.int k), .imm (.int at'), .imm (.int turn), .own (.lst (acc ++ [.str w])), .imm o, .imm (.str w), .non] := by
  have hm := Int.emod_nonneg (turn + 7 * k) (show (26 : Int) ≠ 0 by decide)
  have hm2 := Int.emod_lt_of_pos (turn + 7 * k) (show (0 : Int) < 26 by decide)
  obtain ⟨c, _, _, ec⟩ := idx_str (s := letters) hm hm2 (by decide)
  have q0 := Int.emod_nonneg k (show (2 : Int) ≠ 0 by decide)
  have q1 := Int.emod_lt_of_pos k (show (0 : Int) < 2 by decide)
  have q2 : 0 ≤ k / 26 := Int.ediv_nonneg hk (by decide)
  have q3 : k / 26 ≤ 4 := by omega
  obtain ⟨t1, e1, l1⟩ := times_ok (s := [120]) q0 (by omega) (by decide)
  obtain ⟨t2, e2, l2⟩ := times_ok (s := [121]) q2 (by omega) (by decide)
  rw [List.length_singleton] at l1 l2
  have c1 := cut_len core none (some at')
  have c2 := cut_len core (some at') none
  have hbig : (1000 : Nat) < big := by decide
  have b1 : core.length ≤ big := by omega
  have b2 : (cutD core none (some at')).length + 1 ≤ big := by omega
  have b3 : (cutD core none (some at') ++ [c]).length + (cutD core (some at') none).length ≤ big := by rw [List.length_append, List.length_singleton]; omega
  have b4 : (cutD core none (some at') ++ [c] ++ cutD core (some at') none).length + t1.length ≤ big := by rw [List.length_append, List.length_append, List.length_singleton]; omega
  have b5 : (cutD core none (some at') ++ [c] ++ cutD core (some at') none ++ t1).length + t2.length ≤ big := by rw [List.length_append, List.length_append, List.length_append, List.length_singleton]; omega
  have hacc : acc.length < big := by omega
  have k7 : timesD (.int 7) (.int k) = some (.imm (.int (7 * k))) := timesI (.inl (by decide))
  obtain ⟨w, hw⟩ : ∃ w, w = cutD core none (some at') ++ [c] ++ cutD core (some at') none ++ t1 ++ t2 := ⟨_, rfl⟩
  have lw : w.length ≤ 40 := by rw [hw]; simp only [List.length_append, List.length_singleton]; omega
  obtain ⟨m1, hm1⟩ : ∃ b, memD false (.str w) (.tup [.str [109, 97, 100, 101], .str [97, 115, 107, 101, 100], .str [100, 101, 102], .str [116, 97, 98], .str [99, 114, 111, 115, 115], .str [116, 111], .str [110, 117, 109, 98, 101, 114]]) = some (.imm (.bl b)) := ⟨_, rfl⟩
  have hmm : ∀ w : List Nat, ∃ b, memD false (.str w) (.tup [.str [122, 101, 114, 111], .str [108, 101, 116], .str [109, 97, 107, 101], .str [97, 115, 107], .str [99, 97, 115, 101], .str [110, 101, 119]]) = some (.imm (.bl b)) := fun w => ⟨_, rfl⟩
  have bw : w.length + 1 ≤ big := by omega
  have bw2 : (w ++ [113]).length + 1 ≤ big := by rw [List.length_append, List.length_singleton]; omega
  unfold wBody
  cases m1 with
  | true =>
    obtain ⟨m2, hm2⟩ := hmm (w ++ [113])
    cases m2 with
    | true =>
      refine ⟨.str [c], w ++ [113] ++ [113], by simp only [List.length_append, List.length_singleton]; omega, ?_⟩
      simp -implicitDefEqProofs only [h8, h9, k7, e1, e2, b1, b2, b3, b4, b5, ec, ← hw, hm1, hm2, bw, bw2, hacc, x_var, x_vi, x_vo, x_vp, x_c, x_rdi, x_rdo, x_rdr, x_rki, x_rko, x_rkp, x_opt, x_bin, x_bin1, x_bin2, x_bin3, x_un, x_un1, x_un2, x_frz, x_fzi, x_fzo, x_fzr, x_fki, x_fko, x_fzl, x_fzd, x_fzt, x_args, x_args1, x_args2, x_im0, x_im1, x_nil, x_cons, x_cons1, x_cons2, x_cons3, x_call, x_call1, x_call2, x_call3, x_call4, x_ta0, x_ta1, x_ta2, x_tk1, x_tk2, x_tk3, x_rf0, x_rf1, x_rf2, x_nd0, x_nd1, x_nd2, x_wb0, x_wb1, x_po0, x_po1, x_po2, x_w0, x_w1, x_w2, x_w3, x_wk1, x_wk2, x_tV, x_tV1, x_tr, x_tr1, x_tr2, x_tr3, x_not, x_not1, x_and, x_and1, x_and2, x_or, x_or1, x_or2, x_andV, x_andV1, x_andV2, x_orV, x_orV1, x_orV2, x_notV, x_notV1, x_if, x_if1, x_if2, x_pno, x_pat, x_pat1, x_slc, x_slc1, x_slc2, x_slc3, x_m1, x_m11, x_m12, x_isS, x_iof, x_iof1, x_iof2, x_itl, x_itt, x_its, x_rng, x_rng1, x_rng2, x_lc, x_lc1, x_lc2, x_tg1, x_wi0, x_wi1, x_re0, x_re1, x_gk, x_ia0, x_ia1, x_ii1, x_ii2, x_seq, x_seq1, x_seq2, x_seq3, x_seq4, x_seq5, x_pass, x_brk, x_cont, x_retN, x_nxK, x_put, x_pk1, x_pk2, x_pk3, x_set, x_set1, x_set2, x_set3, x_asg, x_asg1, x_setN, x_setTp, x_sts0, x_sts1, x_sts2, x_ifS, x_ifS1, x_ifS2, x_ret, x_ret1, x_ret2, x_exp, x_exp1, x_exp2, x_ow, x_ow1, x_ow2, x_rs, x_rs1, x_rs2, x_app, x_app1, x_app2, x_app3, x_sput, x_sput1, x_sput2, x_sput3, x_sput4, x_sput5, x_for, x_for1, x_run, x_fin1, x_fin2, x_fin3, x_fin4, x_fin5, x_rvi, x_rvo, x_rvr, x_rk1, x_rk2, x_ba0, x_ba1, x_ba2, x_se, x_si, x_sm, x_tupD, x_lstD, x_plusS, x_plusL, x_lenS, x_lenL, x_lenT, x_sub, x_lt, x_gt, x_le, x_ge, x_neg, x_revs, x_neB, x_eqB, x_tB, x_pkn, x_iin, x_slcS, x_slcL, x_slcT, x_yes, x_tms, x_mod, x_fdiv, x_sm62, x_big, x_bigL, Out.bind_ok, Out.bind_exc, Out.bind_fail, List.getElem?_cons_zero, List.getElem?_cons_succ, List.set_cons_zero, List.set_cons_succ, plusI, eqI, Option.map_some, Option.map_none, List.length_cons, List.length_nil, Nat.zero_add, Nat.add_zero, List.map_cons, List.map_nil, reduceIte, if_true, if_false, Nat.reduceAdd, Nat.reduceSub, Nat.reduceLeDiff, List.replicate_succ, List.replicate_zero, Bool.false_eq_true, Bool.not_true, Bool.not_false, List.getElem?_nil, Bool.and_true, Bool.true_and, bne_iff_ne, ne_eq, Nat.succ_ne_zero, not_false_eq_true, not_true_eq_false, reduceCtorEq, Nat.add_one_sub_one, eq_self, Int.reduceLT, Int.reduceLE, Int.reduceNeg, Int.reduceAdd, Int.reduceSub, Int.reduceMul, Int.reduceEq, Int.reduceBEq, Int.reduceBNe, Int.reduceMod, Int.reduceDiv, Nat.reduceEqDiff, Int.reduceToNat, decide_true, decide_false, true_and, and_true, and_self, Bool.and_self]
    | false =>
      refine ⟨.str [c], w ++ [113], by simp only [List.length_append, List.length_singleton]; omega, ?_⟩
      simp -implicitDefEqProofs only [h8, h9, k7, e1, e2, b1, b2, b3, b4, b5, ec, ← hw, hm1, hm2, bw, bw2, hacc, x_var, x_vi, x_vo, x_vp, x_c, x_rdi, x_rdo, x_rdr, x_rki, x_rko, x_rkp, x_opt, x_bin, x_bin1, x_bin2, x_bin3, x_un, x_un1, x_un2, x_frz, x_fzi, x_fzo, x_fzr, x_fki, x_fko, x_fzl, x_fzd, x_fzt, x_args, x_args1, x_args2, x_im0, x_im1, x_nil, x_cons, x_cons1, x_cons2, x_cons3, x_call, x_call1, x_call2, x_call3, x_call4, x_ta0, x_ta1, x_ta2, x_tk1, x_tk2, x_tk3, x_rf0, x_rf1, x_rf2, x_nd0, x_nd1, x_nd2, x_wb0, x_wb1, x_po0, x_po1, x_po2, x_w0, x_w1, x_w2, x_w3, x_wk1, x_wk2, x_tV, x_tV1, x_tr, x_tr1, x_tr2, x_tr3, x_not, x_not1, x_and, x_and1, x_and2, x_or, x_or1, x_or2, x_andV, x_andV1, x_andV2, x_orV, x_orV1, x_orV2, x_notV, x_notV1, x_if, x_if1, x_if2, x_pno, x_pat, x_pat1, x_slc, x_slc1, x_slc2, x_slc3, x_m1, x_m11, x_m12, x_isS, x_iof, x_iof1, x_iof2, x_itl, x_itt, x_its, x_rng, x_rng1, x_rng2, x_lc, x_lc1, x_lc2, x_tg1, x_wi0, x_wi1, x_re0, x_re1, x_gk, x_ia0, x_ia1, x_ii1, x_ii2, x_seq, x_seq1, x_seq2, x_seq3, x_seq4, x_seq5, x_pass, x_brk, x_cont, x_retN, x_nxK, x_put, x_pk1, x_pk2, x_pk3, x_set, x_set1, x_set2, x_set3, x_asg, x_asg1, x_setN, x_setTp, x_sts0, x_sts1, x_sts2, x_ifS, x_ifS1, x_ifS2, x_ret, x_ret1, x_ret2, x_exp, x_exp1, x_exp2, x_ow, x_ow1, x_ow2, x_rs, x_rs1, x_rs2, x_app, x_app1, x_app2, x_app3, x_sput, x_sput1, x_sput2, x_sput3, x_sput4, x_sput5, x_for, x_for1, x_run, x_fin1, x_fin2, x_fin3, x_fin4, x_fin5, x_rvi, x_rvo, x_rvr, x_rk1, x_rk2, x_ba0, x_ba1, x_ba2, x_se, x_si, x_sm, x_tupD, x_lstD, x_plusS, x_plusL, x_lenS, x_lenL, x_lenT, x_sub, x_lt, x_gt, x_le, x_ge, x_neg, x_revs, x_neB, x_eqB, x_tB, x_pkn, x_iin, x_slcS, x_slcL, x_slcT, x_yes, x_tms, x_mod, x_fdiv, x_sm62, x_big, x_bigL, Out.bind_ok, Out.bind_exc, Out.bind_fail, List.getElem?_cons_zero, List.getElem?_cons_succ, List.set_cons_zero, List.set_cons_succ, plusI, eqI, Option.map_some, Option.map_none, List.length_cons, List.length_nil, Nat.zero_add, Nat.add_zero, List.map_cons, List.map_nil, reduceIte, if_true, if_false, Nat.reduceAdd, Nat.reduceSub, Nat.reduceLeDiff, List.replicate_succ, List.replicate_zero, Bool.false_eq_true, Bool.not_true, Bool.not_false, List.getElem?_nil, Bool.and_true, Bool.true_and, bne_iff_ne, ne_eq, Nat.succ_ne_zero, not_false_eq_true, not_true_eq_false, reduceCtorEq, Nat.add_one_sub_one, eq_self, Int.reduceLT, Int.reduceLE, Int.reduceNeg, Int.reduceAdd, Int.reduceSub, Int.reduceMul, Int.reduceEq, Int.reduceBEq, Int.reduceBNe, Int.reduceMod, Int.reduceDiv, Nat.reduceEqDiff, Int.reduceToNat, decide_true, decide_false, true_and, and_true, and_self, Bool.and_self]
  | false =>
    obtain ⟨m2, hm2⟩ := hmm w
    cases m2 with
    | true =>
      refine ⟨.str [c], w ++ [113], by simp only [List.length_append, List.length_singleton]; omega, ?_⟩
      simp -implicitDefEqProofs only [h8, h9, k7, e1, e2, b1, b2, b3, b4, b5, ec, ← hw, hm1, hm2, bw, bw2, hacc, x_var, x_vi, x_vo, x_vp, x_c, x_rdi, x_rdo, x_rdr, x_rki, x_rko, x_rkp, x_opt, x_bin, x_bin1, x_bin2, x_bin3, x_un, x_un1, x_un2, x_frz, x_fzi, x_fzo, x_fzr, x_fki, x_fko, x_fzl, x_fzd, x_fzt, x_args, x_args1, x_args2, x_im0, x_im1, x_nil, x_cons, x_cons1, x_cons2, x_cons3, x_call, x_call1, x_call2, x_call3, x_call4, x_ta0, x_ta1, x_ta2, x_tk1, x_tk2, x_tk3, x_rf0, x_rf1, x_rf2, x_nd0, x_nd1, x_nd2, x_wb0, x_wb1, x_po0, x_po1, x_po2, x_w0, x_w1, x_w2, x_w3, x_wk1, x_wk2, x_tV, x_tV1, x_tr, x_tr1, x_tr2, x_tr3, x_not, x_not1, x_and, x_and1, x_and2, x_or, x_or1, x_or2, x_andV, x_andV1, x_andV2, x_orV, x_orV1, x_orV2, x_notV, x_notV1, x_if, x_if1, x_if2, x_pno, x_pat, x_pat1, x_slc, x_slc1, x_slc2, x_slc3, x_m1, x_m11, x_m12, x_isS, x_iof, x_iof1, x_iof2, x_itl, x_itt, x_its, x_rng, x_rng1, x_rng2, x_lc, x_lc1, x_lc2, x_tg1, x_wi0, x_wi1, x_re0, x_re1, x_gk, x_ia0, x_ia1, x_ii1, x_ii2, x_seq, x_seq1, x_seq2, x_seq3, x_seq4, x_seq5, x_pass, x_brk, x_cont, x_retN, x_nxK, x_put, x_pk1, x_pk2, x_pk3, x_set, x_set1, x_set2, x_set3, x_asg, x_asg1, x_setN, x_setTp, x_sts0, x_sts1, x_sts2, x_ifS, x_ifS1, x_ifS2, x_ret, x_ret1, x_ret2, x_exp, x_exp1, x_exp2, x_ow, x_ow1, x_ow2, x_rs, x_rs1, x_rs2, x_app, x_app1, x_app2, x_app3, x_sput, x_sput1, x_sput2, x_sput3, x_sput4, x_sput5, x_for, x_for1, x_run, x_fin1, x_fin2, x_fin3, x_fin4, x_fin5, x_rvi, x_rvo, x_rvr, x_rk1, x_rk2, x_ba0, x_ba1, x_ba2, x_se, x_si, x_sm, x_tupD, x_lstD, x_plusS, x_plusL, x_lenS, x_lenL, x_lenT, x_sub, x_lt, x_gt, x_le, x_ge, x_neg, x_revs, x_neB, x_eqB, x_tB, x_pkn, x_iin, x_slcS, x_slcL, x_slcT, x_yes, x_tms, x_mod, x_fdiv, x_sm62, x_big, x_bigL, Out.bind_ok, Out.bind_exc, Out.bind_fail, List.getElem?_cons_zero, List.getElem?_cons_succ, List.set_cons_zero, List.set_cons_succ, plusI, eqI, Option.map_some, Option.map_none, List.length_cons, List.length_nil, Nat.zero_add, Nat.add_zero, List.map_cons, List.map_nil, reduceIte, if_true, if_false, Nat.reduceAdd, Nat.reduceSub, Nat.reduceLeDiff, List.replicate_succ, List.replicate_zero, Bool.false_eq_true, Bool.not_true, Bool.not_false, List.getElem?_nil, Bool.and_true, Bool.true_and, bne_iff_ne, ne_eq, Nat.succ_ne_zero, not_false_eq_true, not_true_eq_false, reduceCtorEq, Nat.add_one_sub_one, eq_self, Int.reduceLT, Int.reduceLE, Int.reduceNeg, Int.reduceAdd, Int.reduceSub, Int.reduceMul, Int.reduceEq, Int.reduceBEq, Int.reduceBNe, Int.reduceMod, Int.reduceDiv, Nat.reduceEqDiff, Int.reduceToNat, decide_true, decide_false, true_and, and_true, and_self, Bool.and_self]
    | false =>
      refine ⟨.str [c], w, by omega, ?_⟩
      simp -implicitDefEqProofs only [h8, h9, k7, e1, e2, b1, b2, b3, b4, b5, ec, ← hw, hm1, hm2, bw, bw2, hacc, x_var, x_vi, x_vo, x_vp, x_c, x_rdi, x_rdo, x_rdr, x_rki, x_rko, x_rkp, x_opt, x_bin, x_bin1, x_bin2, x_bin3, x_un, x_un1, x_un2, x_frz, x_fzi, x_fzo, x_fzr, x_fki, x_fko, x_fzl, x_fzd, x_fzt, x_args, x_args1, x_args2, x_im0, x_im1, x_nil, x_cons, x_cons1, x_cons2, x_cons3, x_call, x_call1, x_call2, x_call3, x_call4, x_ta0, x_ta1, x_ta2, x_tk1, x_tk2, x_tk3, x_rf0, x_rf1, x_rf2, x_nd0, x_nd1, x_nd2, x_wb0, x_wb1, x_po0, x_po1, x_po2, x_w0, x_w1, x_w2, x_w3, x_wk1, x_wk2, x_tV, x_tV1, x_tr, x_tr1, x_tr2, x_tr3, x_not, x_not1, x_and, x_and1, x_and2, x_or, x_or1, x_or2, x_andV, x_andV1, x_andV2, x_orV, x_orV1, x_orV2, x_notV, x_notV1, x_if, x_if1, x_if2, x_pno, x_pat, x_pat1, x_slc, x_slc1, x_slc2, x_slc3, x_m1, x_m11, x_m12, x_isS, x_iof, x_iof1, x_iof2, x_itl, x_itt, x_its, x_rng, x_rng1, x_rng2, x_lc, x_lc1, x_lc2, x_tg1, x_wi0, x_wi1, x_re0, x_re1, x_gk, x_ia0, x_ia1, x_ii1, x_ii2, x_seq, x_seq1, x_seq2, x_seq3, x_seq4, x_seq5, x_pass, x_brk, x_cont, x_retN, x_nxK, x_put, x_pk1, x_pk2, x_pk3, x_set, x_set1, x_set2, x_set3, x_asg, x_asg1, x_setN, x_setTp, x_sts0, x_sts1, x_sts2, x_ifS, x_ifS1, x_ifS2, x_ret, x_ret1, x_ret2, x_exp, x_exp1, x_exp2, x_ow, x_ow1, x_ow2, x_rs, x_rs1, x_rs2, x_app, x_app1, x_app2, x_app3, x_sput, x_sput1, x_sput2, x_sput3, x_sput4, x_sput5, x_for, x_for1, x_run, x_fin1, x_fin2, x_fin3, x_fin4, x_fin5, x_rvi, x_rvo, x_rvr, x_rk1, x_rk2, x_ba0, x_ba1, x_ba2, x_se, x_si, x_sm, x_tupD, x_lstD, x_plusS, x_plusL, x_lenS, x_lenL, x_lenT, x_sub, x_lt, x_gt, x_le, x_ge, x_neg, x_revs, x_neB, x_eqB, x_tB, x_pkn, x_iin, x_slcS, x_slcL, x_slcT, x_yes, x_tms, x_mod, x_fdiv, x_sm62, x_big, x_bigL, Out.bind_ok, Out.bind_exc, Out.bind_fail, List.getElem?_cons_zero, List.getElem?_cons_succ, List.set_cons_zero, List.set_cons_succ, plusI, eqI, Option.map_some, Option.map_none, List.length_cons, List.length_nil, Nat.zero_add, Nat.add_zero, List.map_cons, List.map_nil, reduceIte, if_true, if_false, Nat.reduceAdd, Nat.reduceSub, Nat.reduceLeDiff, List.replicate_succ, List.replicate_zero, Bool.false_eq_true, Bool.not_true, Bool.not_false, List.getElem?_nil, Bool.and_true, Bool.true_and, bne_iff_ne, ne_eq, Nat.succ_ne_zero, not_false_eq_true, not_true_eq_false, reduceCtorEq, Nat.add_one_sub_one, eq_self, Int.reduceLT, Int.reduceLE, Int.reduceNeg, Int.reduceAdd, Int.reduceSub, Int.reduceMul, Int.reduceEq, Int.reduceBEq, Int.reduceBNe, Int.reduceMod, Int.reduceDiv, Nat.reduceEqDiff, Int.reduceToNat, decide_true, decide_false, true_and, and_true, and_self, Bool.and_self]
theorem put_lst {l : List D} {r : Int} (h0 : 0 ≤ r) (h1 : r < l.length) (d : D) : ∃ j, putD (.lst l) (.int r) d = some (.lst (l.set j d)) := by
  have e : ∃ j, ixN l.length r = some j := by
    cases q : ixN l.length r with
    | some j => exact ⟨j, rfl⟩
    | none =>
      obtain ⟨v, _, _, ev⟩ := idx_lst (l := l) h0 h1
      have ev' : Option.map Vl.imm (L2.atI l r) = some (.imm v) := ev
      unfold L2.atI at ev'
      rw [q] at ev'
      cases ev'
  obtain ⟨j, e⟩ := e
  refine ⟨j, ?_⟩
  show (match ixN l.length r with | some j => some (D.lst (l.set j d)) | none => none) = _
  rw [e]
theorem TL_flat {l : List D} (h : ∀ v ∈ l, TL 100 v) : l.all flatD = true := List.all_eq_true.mpr fun v hv => by
  obtain ⟨s, rfl, _⟩ := h v hv
  rfl
def nears : List (List Nat) := [[108, 101, 116, 115], [97, 115, 107, 115], [109, 97, 107, 101, 114], [116, 97, 98, 115], [116, 111, 111], [110, 101, 119, 115], [122, 101, 114, 111, 115], [99, 97, 115, 101, 121], [109, 97, 100, 101, 120], [100, 101, 102, 97], [110, 117, 109], [97, 115, 107, 101, 100, 120]]
theorem words_ok {d : D} (ok : dealOk d) (mn : Nat) (hmn : 1 ≤ mn) (hmn2 : mn ≤ 100) : ∃ (ws : List D) (d' : D), (∀ v ∈ ws, TL 100 v) ∧ ws.length = mn ∧ dealOk d' ∧ runG 2 11 bWords [.mt d, .imm (.int mn)] = .ret (.own (.lst ws)) [.mt d', .imm (.int mn)] := by
  have hbig : (1000 : Nat) < big := by decide
  -- the core
  obtain ⟨n, d1, n0, n1, ok1, en⟩ := drawN 5 ok (by decide) (by decide)
  obtain ⟨cs, d2, ok2, hcs, ecs⟩ := core_loop ok1 (.int mn) n.toNat (by omega)
  obtain ⟨core, ecore, hcore⟩ := joins_ok cs (by omega)
  have h62 : small62 n = true := x_sm62 (by simp; omega)
  have hcb : core.length ≤ big := by omega
  -- where, from which sign
  obtain ⟨at', d3, _, _, ok3, eat⟩ := drawN ((core.length : Int) + 1) ok2 (by omega) (by omega)
  obtain ⟨turn, d4, _, _, ok4, etn⟩ := drawN 26 ok3 (by decide) (by decide)
  -- the words
  obtain ⟨ρ', eL, acc, s4, s8, s9, hacc, hlen, h4, h8, h9, er⟩ := forL_nx (t := .nm 4) (body := wBody) (l := rngD 0 mn) (ρ := [.par d4, .imm (.int mn), .imm (.str letters), .imm (.str core), .non, .imm (.int at'), .imm (.int turn), .own (.lst []), .non, .non, .non])
    (fun j ρ => ∃ acc s4 s8 s9, (∀ v ∈ acc, TL 100 v) ∧ acc.length = j ∧ nim s4 ∧ nim s8 ∧ nim s9 ∧ ρ = [.par d4, .imm (.int mn), .imm (.str letters), .imm (.str core), s4, .imm (.int at'), .imm (.int turn), .own (.lst acc), s8, s9, .non])
    ⟨[], .non, .non, .non, by simp, rfl, trivial, trivial, trivial, rfl⟩ (fun j x hx ρ h => by
      obtain ⟨acc, s4, s8, s9, hacc, hlen, h4, h8, h9, rfl⟩ := h
      obtain ⟨rfl, hj⟩ := rngD_get hx
      obtain ⟨o, w, hw, ew⟩ := word_step (d := d4) (mn := .int mn) (core := core) (by omega) (at' := at') (turn := turn) (k := 0 + (j : Int)) (by omega) (by omega) (acc := acc) (by omega) h8 h9
      refine ⟨_, _, ?_, .inl ew, acc ++ [.str w], _, _, _, ?_, by rw [List.length_append, hlen, List.length_singleton], nim1 _, nim1 _, nim1 _, rfl⟩
      · simp -implicitDefEqProofs only [h4, x_var, x_vi, x_vo, x_vp, x_c, x_rdi, x_rdo, x_rdr, x_rki, x_rko, x_rkp, x_opt, x_bin, x_bin1, x_bin2, x_bin3, x_un, x_un1, x_un2, x_frz, x_fzi, x_fzo, x_fzr, x_fki, x_fko, x_fzl, x_fzd, x_fzt, x_args, x_args1, x_args2, x_im0, x_im1, x_nil, x_cons, x_cons1, x_cons2, x_cons3, x_call, x_call1, x_call2, x_call3, x_call4, x_ta0, x_ta1, x_ta2, x_tk1, x_tk2, x_tk3, x_rf0, x_rf1, x_rf2, x_nd0, x_nd1, x_nd2, x_wb0, x_wb1, x_po0, x_po1, x_po2, x_w0, x_w1, x_w2, x_w3, x_wk1, x_wk2, x_tV, x_tV1, x_tr, x_tr1, x_tr2, x_tr3, x_not, x_not1, x_and, x_and1, x_and2, x_or, x_or1, x_or2, x_andV, x_andV1, x_andV2, x_orV, x_orV1, x_orV2, x_notV, x_notV1, x_if, x_if1, x_if2, x_pno, x_pat, x_pat1, x_slc, x_slc1, x_slc2, x_slc3, x_m1, x_m11, x_m12, x_isS, x_iof, x_iof1, x_iof2, x_itl, x_itt, x_its, x_rng, x_rng1, x_rng2, x_lc, x_lc1, x_lc2, x_tg1, x_wi0, x_wi1, x_re0, x_re1, x_gk, x_ia0, x_ia1, x_ii1, x_ii2, x_seq, x_seq1, x_seq2, x_seq3, x_seq4, x_seq5, x_pass, x_brk, x_cont, x_retN, x_nxK, x_put, x_pk1, x_pk2, x_pk3, x_set, x_set1, x_set2, x_set3, x_asg, x_asg1, x_setN, x_setTp, x_sts0, x_sts1, x_sts2, x_ifS, x_ifS1, x_ifS2, x_ret, x_ret1, x_ret2, x_exp, x_exp1, x_exp2, x_ow, x_ow1, x_ow2, x_rs, x_rs1, x_rs2, x_app, x_app1, x_app2, x_app3, x_sput, x_sput1, x_sput2, x_sput3, x_sput4, x_sput5, x_for, x_for1, x_run, x_fin1, x_fin2, x_fin3, x_fin4, x_fin5, x_rvi, x_rvo, x_rvr, x_rk1, x_rk2, x_ba0, x_ba1, x_ba2, x_se, x_si, x_sm, x_tupD, x_lstD, x_plusS, x_plusL, x_lenS, x_lenL, x_lenT, x_sub, x_lt, x_gt, x_le, x_ge, x_neg, x_revs, x_neB, x_eqB, x_tB, x_pkn, x_iin, x_slcS, x_slcL, x_slcT, x_memT, x_memL, x_yes, x_tms, x_mod, x_fdiv, x_sm62, x_big, x_bigL, Out.bind_ok, Out.bind_exc, Out.bind_fail, List.getElem?_cons_zero, List.getElem?_cons_succ, List.set_cons_zero, List.set_cons_succ, plusI, eqI, Option.map_some, Option.map_none, List.length_cons, List.length_nil, Nat.zero_add, Nat.add_zero, List.map_cons, List.map_nil, reduceIte, if_true, if_false, Nat.reduceAdd, Nat.reduceSub, Nat.reduceLeDiff, List.replicate_succ, List.replicate_zero, List.cons_append, List.nil_append, Bool.false_eq_true, Bool.not_true, Bool.not_false, List.getElem?_nil, Bool.and_true, Bool.true_and, bne_iff_ne, ne_eq, Nat.succ_ne_zero, not_false_eq_true, not_true_eq_false, reduceCtorEq, Nat.add_one_sub_one, eq_self, Int.reduceLT, Int.reduceLE, Int.reduceNeg, Int.reduceAdd, Int.reduceSub, Int.reduceMul, Int.reduceEq, Int.reduceBEq, Int.reduceBNe, Int.reduceMod, Int.reduceDiv, Nat.reduceEqDiff, Int.reduceToNat, decide_true, decide_false, true_and, and_true, and_self, Bool.and_self]
      · intro v hv
        rcases List.mem_append.mp hv with hv | hv
        · exact hacc v hv
        · rw [List.mem_singleton] at hv
          exact ⟨w, hv, by omega⟩)
  rw [rngD_len] at hlen
  subst er
  -- one of the near ones
  obtain ⟨r5, d5, r50, r51, ok5, e5⟩ := drawN 12 ok4 (by decide) (by decide)
  obtain ⟨v, hv, _, ev⟩ := idx_lst (l := nears.map .str) r50 r51
  have hv2 : ∀ v ∈ nears.map D.str, TL 10 v := strs_TL (by decide)
  obtain ⟨w, rfl, hw⟩ := hv2 v hv
  simp only [nears, List.map_cons, List.map_nil] at ev
  obtain ⟨r6, d6, r60, r61, ok6, e6⟩ := drawN 3 ok5 (by decide) (by decide)
  have fin : ∀ j : Nat, ∀ v ∈ acc.set j (.str w), TL 100 v := fun j v hv => by
    rcases List.mem_or_eq_of_mem_set hv with hv | hv
    · exact hacc v hv
    · exact ⟨w, hv, by omega⟩
  have e62 : small62 (mn : Int) = true := x_sm62 (by simp; omega)
  unfold wBody at eL
  show ∃ (ws : List D) (d' : D), (∀ v ∈ ws, TL 100 v) ∧ ws.length = mn ∧ dealOk d' ∧ runG 2 11 bWords _ = _
  unfold bWords
  simp only [letters] at ecs eL
  cases q6 : (r6 == 1) with
  | false =>
    refine ⟨acc, d6, hacc, hlen, ok6, ?_⟩
    simp -implicitDefEqProofs only [x_var, x_vi, x_vo, x_vp, x_c, x_rdi, x_rdo, x_rdr, x_rki, x_rko, x_rkp, x_opt, x_bin, x_bin1, x_bin2, x_bin3, x_un, x_un1, x_un2, x_frz, x_fzi, x_fzo, x_fzr, x_fki, x_fko, x_fzl, x_fzd, x_fzt, x_args, x_args1, x_args2, x_im0, x_im1, x_nil, x_cons, x_cons1, x_cons2, x_cons3, x_call, x_call1, x_call2, x_call3, x_call4, x_ta0, x_ta1, x_ta2, x_tk1, x_tk2, x_tk3, x_rf0, x_rf1, x_rf2, x_nd0, x_nd1, x_nd2, x_wb0, x_wb1, x_po0, x_po1, x_po2, x_w0, x_w1, x_w2, x_w3, x_wk1, x_wk2, x_tV, x_tV1, x_tr, x_tr1, x_tr2, x_tr3, x_not, x_not1, x_and, x_and1, x_and2, x_or, x_or1, x_or2, x_andV, x_andV1, x_andV2, x_orV, x_orV1, x_orV2, x_notV, x_notV1, x_if, x_if1, x_if2, x_pno, x_pat, x_pat1, x_slc, x_slc1, x_slc2, x_slc3, x_m1, x_m11, x_m12, x_isS, x_iof, x_iof1, x_iof2, x_itl, x_itt, x_its, x_rng, x_rng1, x_rng2, x_lc, x_lc1, x_lc2, x_tg1, x_wi0, x_wi1, x_re0, x_re1, x_gk, x_ia0, x_ia1, x_ii1, x_ii2, x_seq, x_seq1, x_seq2, x_seq3, x_seq4, x_seq5, x_pass, x_brk, x_cont, x_retN, x_nxK, x_put, x_pk1, x_pk2, x_pk3, x_set, x_set1, x_set2, x_set3, x_asg, x_asg1, x_setN, x_setTp, x_sts0, x_sts1, x_sts2, x_ifS, x_ifS1, x_ifS2, x_ret, x_ret1, x_ret2, x_exp, x_exp1, x_exp2, x_ow, x_ow1, x_ow2, x_rs, x_rs1, x_rs2, x_app, x_app1, x_app2, x_app3, x_sput, x_sput1, x_sput2, x_sput3, x_sput4, x_sput5, x_for, x_for1, x_run, x_fin1, x_fin2, x_fin3, x_fin4, x_fin5, x_rvi, x_rvo, x_rvr, x_rk1, x_rk2, x_ba0, x_ba1, x_ba2, x_se, x_si, x_sm, x_tupD, x_lstD, x_plusS, x_plusL, x_lenS, x_lenL, x_lenT, x_sub, x_lt, x_gt, x_le, x_ge, x_neg, x_revs, x_neB, x_eqB, x_tB, x_pkn, x_iin, x_slcS, x_slcL, x_slcT, x_memT, x_memL, x_yes, x_tms, x_mod, x_fdiv, x_sm62, x_big, x_bigL, Out.bind_ok, Out.bind_exc, Out.bind_fail, List.getElem?_cons_zero, List.getElem?_cons_succ, List.set_cons_zero, List.set_cons_succ, plusI, eqI, Option.map_some, Option.map_none, List.length_cons, List.length_nil, Nat.zero_add, Nat.add_zero, List.map_cons, List.map_nil, reduceIte, if_true, if_false, Nat.reduceAdd, Nat.reduceSub, Nat.reduceLeDiff, List.replicate_succ, List.replicate_zero, List.cons_append, List.nil_append, Bool.false_eq_true, Bool.not_true, Bool.not_false, List.getElem?_nil, Bool.and_true, Bool.true_and, bne_iff_ne, ne_eq, Nat.succ_ne_zero, not_false_eq_true, not_true_eq_false, reduceCtorEq, Nat.add_one_sub_one, eq_self, Int.reduceLT, Int.reduceLE, Int.reduceNeg, Int.reduceAdd, Int.reduceSub, Int.reduceMul, Int.reduceEq, Int.reduceBEq, Int.reduceBNe, Int.reduceMod, Int.reduceDiv, Nat.reduceEqDiff, Int.reduceToNat, decide_true, decide_false, true_and, and_true, and_self, Bool.and_self, en, h62, ecs, ecore, hcb, eat, etn, e62, Int.toNat_natCast, eL, e5, ev, e6, h4, h8, h9, q6]
  | true =>
    obtain ⟨b, hb⟩ : ∃ b, memD true (.str w) (.lst acc) = some (.imm (.bl b)) := ⟨_, x_memL (by rw [TL_flat hacc]; rfl)⟩
    cases b with
    | false =>
      refine ⟨acc, d6, hacc, hlen, ok6, ?_⟩
      simp -implicitDefEqProofs only [x_var, x_vi, x_vo, x_vp, x_c, x_rdi, x_rdo, x_rdr, x_rki, x_rko, x_rkp, x_opt, x_bin, x_bin1, x_bin2, x_bin3, x_un, x_un1, x_un2, x_frz, x_fzi, x_fzo, x_fzr, x_fki, x_fko, x_fzl, x_fzd, x_fzt, x_args, x_args1, x_args2, x_im0, x_im1, x_nil, x_cons, x_cons1, x_cons2, x_cons3, x_call, x_call1, x_call2, x_call3, x_call4, x_ta0, x_ta1, x_ta2, x_tk1, x_tk2, x_tk3, x_rf0, x_rf1, x_rf2, x_nd0, x_nd1, x_nd2, x_wb0, x_wb1, x_po0, x_po1, x_po2, x_w0, x_w1, x_w2, x_w3, x_wk1, x_wk2, x_tV, x_tV1, x_tr, x_tr1, x_tr2, x_tr3, x_not, x_not1, x_and, x_and1, x_and2, x_or, x_or1, x_or2, x_andV, x_andV1, x_andV2, x_orV, x_orV1, x_orV2, x_notV, x_notV1, x_if, x_if1, x_if2, x_pno, x_pat, x_pat1, x_slc, x_slc1, x_slc2, x_slc3, x_m1, x_m11, x_m12, x_isS, x_iof, x_iof1, x_iof2, x_itl, x_itt, x_its, x_rng, x_rng1, x_rng2, x_lc, x_lc1, x_lc2, x_tg1, x_wi0, x_wi1, x_re0, x_re1, x_gk, x_ia0, x_ia1, x_ii1, x_ii2, x_seq, x_seq1, x_seq2, x_seq3, x_seq4, x_seq5, x_pass, x_brk, x_cont, x_retN, x_nxK, x_put, x_pk1, x_pk2, x_pk3, x_set, x_set1, x_set2, x_set3, x_asg, x_asg1, x_setN, x_setTp, x_sts0, x_sts1, x_sts2, x_ifS, x_ifS1, x_ifS2, x_ret, x_ret1, x_ret2, x_exp, x_exp1, x_exp2, x_ow, x_ow1, x_ow2, x_rs, x_rs1, x_rs2, x_app, x_app1, x_app2, x_app3, x_sput, x_sput1, x_sput2, x_sput3, x_sput4, x_sput5, x_for, x_for1, x_run, x_fin1, x_fin2, x_fin3, x_fin4, x_fin5, x_rvi, x_rvo, x_rvr, x_rk1, x_rk2, x_ba0, x_ba1, x_ba2, x_se, x_si, x_sm, x_tupD, x_lstD, x_plusS, x_plusL, x_lenS, x_lenL, x_lenT, x_sub, x_lt, x_gt, x_le, x_ge, x_neg, x_revs, x_neB, x_eqB, x_tB, x_pkn, x_iin, x_slcS, x_slcL, x_slcT, x_yes, x_tms, x_mod, x_fdiv, x_sm62, x_big, x_bigL, Out.bind_ok, Out.bind_exc, Out.bind_fail, List.getElem?_cons_zero, List.getElem?_cons_succ, List.set_cons_zero, List.set_cons_succ, plusI, eqI, Option.map_some, Option.map_none, List.length_cons, List.length_nil, Nat.zero_add, Nat.add_zero, List.map_cons, List.map_nil, reduceIte, if_true, if_false, Nat.reduceAdd, Nat.reduceSub, Nat.reduceLeDiff, List.replicate_succ, List.replicate_zero, Bool.false_eq_true, Bool.not_true, Bool.not_false, List.getElem?_nil, Bool.and_true, Bool.true_and, bne_iff_ne, ne_eq, Nat.succ_ne_zero, not_false_eq_true, not_true_eq_false, reduceCtorEq, Nat.add_one_sub_one, eq_self, Int.reduceLT, Int.reduceLE, Int.reduceNeg, Int.reduceAdd, Int.reduceSub, Int.reduceMul, Int.reduceEq, Int.reduceBEq, Int.reduceBNe, Int.reduceMod, Int.reduceDiv, Nat.reduceEqDiff, Int.reduceToNat, decide_true, decide_false, true_and, and_true, and_self, Bool.and_self, en, h62, ecs, ecore, hcb, eat, etn, e62, Int.toNat_natCast, eL, e5, ev, e6, h4, h8, h9, q6, hb, List.cons_append, List.nil_append]
    | true =>
      obtain ⟨r7, d7, r70, r71, ok7, e7⟩ := drawN (mn : Int) ok6 (by omega) (by omega)
      obtain ⟨j, ej⟩ := put_lst (l := acc) r70 (by omega) (.str w)
      refine ⟨acc.set j (.str w), d7, fin j, by rw [List.length_set, hlen], ok7, ?_⟩
      simp -implicitDefEqProofs only [x_var, x_vi, x_vo, x_vp, x_c, x_rdi, x_rdo, x_rdr, x_rki, x_rko, x_rkp, x_opt, x_bin, x_bin1, x_bin2, x_bin3, x_un, x_un1, x_un2, x_frz, x_fzi, x_fzo, x_fzr, x_fki, x_fko, x_fzl, x_fzd, x_fzt, x_args, x_args1, x_args2, x_im0, x_im1, x_nil, x_cons, x_cons1, x_cons2, x_cons3, x_call, x_call1, x_call2, x_call3, x_call4, x_ta0, x_ta1, x_ta2, x_tk1, x_tk2, x_tk3, x_rf0, x_rf1, x_rf2, x_nd0, x_nd1, x_nd2, x_wb0, x_wb1, x_po0, x_po1, x_po2, x_w0, x_w1, x_w2, x_w3, x_wk1, x_wk2, x_tV, x_tV1, x_tr, x_tr1, x_tr2, x_tr3, x_not, x_not1, x_and, x_and1, x_and2, x_or, x_or1, x_or2, x_andV, x_andV1, x_andV2, x_orV, x_orV1, x_orV2, x_notV, x_notV1, x_if, x_if1, x_if2, x_pno, x_pat, x_pat1, x_slc, x_slc1, x_slc2, x_slc3, x_m1, x_m11, x_m12, x_isS, x_iof, x_iof1, x_iof2, x_itl, x_itt, x_its, x_rng, x_rng1, x_rng2, x_lc, x_lc1, x_lc2, x_tg1, x_wi0, x_wi1, x_re0, x_re1, x_gk, x_ia0, x_ia1, x_ii1, x_ii2, x_seq, x_seq1, x_seq2, x_seq3, x_seq4, x_seq5, x_pass, x_brk, x_cont, x_retN, x_nxK, x_put, x_pk1, x_pk2, x_pk3, x_set, x_set1, x_set2, x_set3, x_asg, x_asg1, x_setN, x_setTp, x_sts0, x_sts1, x_sts2, x_ifS, x_ifS1, x_ifS2, x_ret, x_ret1, x_ret2, x_exp, x_exp1, x_exp2, x_ow, x_ow1, x_ow2, x_rs, x_rs1, x_rs2, x_app, x_app1, x_app2, x_app3, x_sput, x_sput1, x_sput2, x_sput3, x_sput4, x_sput5, x_for, x_for1, x_run, x_fin1, x_fin2, x_fin3, x_fin4, x_fin5, x_rvi, x_rvo, x_rvr, x_rk1, x_rk2, x_ba0, x_ba1, x_ba2, x_se, x_si, x_sm, x_tupD, x_lstD, x_plusS, x_plusL, x_lenS, x_lenL, x_lenT, x_sub, x_lt, x_gt, x_le, x_ge, x_neg, x_revs, x_neB, x_eqB, x_tB, x_pkn, x_iin, x_slcS, x_slcL, x_slcT, x_yes, x_tms, x_mod, x_fdiv, x_sm62, x_big, x_bigL, Out.bind_ok, Out.bind_exc, Out.bind_fail, List.getElem?_cons_zero, List.getElem?_cons_succ, List.set_cons_zero, List.set_cons_succ, plusI, eqI, Option.map_some, Option.map_none, List.length_cons, List.length_nil, Nat.zero_add, Nat.add_zero, List.map_cons, List.map_nil, reduceIte, if_true, if_false, Nat.reduceAdd, Nat.reduceSub, Nat.reduceLeDiff, List.replicate_succ, List.replicate_zero, Bool.false_eq_true, Bool.not_true, Bool.not_false, List.getElem?_nil, Bool.and_true, Bool.true_and, bne_iff_ne, ne_eq, Nat.succ_ne_zero, not_false_eq_true, not_true_eq_false, reduceCtorEq, Nat.add_one_sub_one, eq_self, Int.reduceLT, Int.reduceLE, Int.reduceNeg, Int.reduceAdd, Int.reduceSub, Int.reduceMul, Int.reduceEq, Int.reduceBEq, Int.reduceBNe, Int.reduceMod, Int.reduceDiv, Nat.reduceEqDiff, Int.reduceToNat, decide_true, decide_false, true_and, and_true, and_self, Bool.and_self, en, h62, ecs, ecore, hcb, eat, etn, e62, Int.toNat_natCast, eL, e5, ev, e6, h4, h8, h9, q6, hb, e7, ej, List.cons_append, List.nil_append]
end PF

namespace K31
open PySem L2 PF
/-! ### the text by places -/
def top (i : Nat) : Stmt := PySem.Challenge.pw_sideturn_k31_values_read_by_names.main.body.getD i (.Pass ⟨0, 0, 0, 0⟩)
abbrev st__law_draw : Stmt := top 6
def N__law_draw : List Str := ["_law_deal_here", "_law_many", "_law_number", "_law_one", "_law_other"]
theorem sc__law_draw : FnScope N__law_draw ["_law_deal_here", "_law_many"] (defScope st__law_draw) := ⟨rfl, rfl, rfl, by decide +kernel, rfl, by decide +kernel, by decide +kernel⟩
abbrev st__law_any_name : Stmt := top 11
def N__law_any_name : List Str := ["_law_deal_here", "_law_words_here", "_law_places"]
theorem sc__law_any_name : FnScope N__law_any_name ["_law_deal_here", "_law_words_here", "_law_places"] (defScope st__law_any_name) := ⟨rfl, rfl, rfl, by decide +kernel, rfl, by decide +kernel, by decide +kernel⟩
abbrev st__law_any_value : Stmt := top 12
def N__law_any_value : List Str := ["_law_deal_here", "_law_words_here", "_law_places", "_law_room", "_law_form", "_law_name_here", "_law_word", "_law_many", "_law_k"]
theorem sc__law_any_value : FnScope N__law_any_value ["_law_deal_here", "_law_words_here", "_law_places", "_law_room"] (defScope st__law_any_value) := ⟨rfl, rfl, rfl, by decide +kernel, rfl, by decide +kernel, by decide +kernel⟩
abbrev st__law_any_end : Stmt := top 13
def N__law_any_end : List Str := ["_law_deal_here", "_law_words_here", "_law_places", "_law_form"]
theorem sc__law_any_end : FnScope N__law_any_end ["_law_deal_here", "_law_words_here", "_law_places"] (defScope st__law_any_end) := ⟨rfl, rfl, rfl, by decide +kernel, rfl, by decide +kernel, by decide +kernel⟩
abbrev st__law_deal : Stmt := top 5
def N__law_deal : List Str := ["_law_script", "_law_base", "_law_some", "_law_one", "_law_number"]
theorem sc__law_deal : FnScope N__law_deal ["_law_script", "_law_base"] (defScope st__law_deal) := ⟨rfl, rfl, rfl, by decide +kernel, rfl, by decide +kernel, by decide +kernel⟩
abbrev st__law_name : Stmt := top 8
def N__law_name : List Str := ["_law_names", "_law_name_here"]
theorem sc__law_name : FnScope N__law_name ["_law_names", "_law_name_here"] (defScope st__law_name) := ⟨rfl, rfl, rfl, by decide +kernel, rfl, by decide +kernel, by decide +kernel⟩
abbrev st__law_value : Stmt := top 9
def N__law_value : List Str := ["_law_names", "_law_value_here", "_law_part"]
theorem sc__law_value : FnScope N__law_value ["_law_names", "_law_value_here"] (defScope st__law_value) := ⟨rfl, rfl, rfl, by decide +kernel, rfl, by decide +kernel, by decide +kernel⟩
abbrev st__law_end : Stmt := top 10
def N__law_end : List Str := ["_law_names", "_law_end_here", "_law_name_here"]
theorem sc__law_end : FnScope N__law_end ["_law_names", "_law_end_here"] (defScope st__law_end) := ⟨rfl, rfl, rfl, by decide +kernel, rfl, by decide +kernel, by decide +kernel⟩
abbrev st__law_words : Stmt := top 7
def N__law_words : List Str := ["_law_deal_here", "_law_many", "_law_letters", "_law_core", "_law_k", "_law_at", "_law_turn", "_law_found", "_law_own", "_law_word", "_law_near"]
theorem sc__law_words : FnScope N__law_words ["_law_deal_here", "_law_many"] (defScope st__law_words) := ⟨rfl, rfl, rfl, by decide +kernel, rfl, by decide +kernel, by decide +kernel⟩
abbrev st_lifted_name : Stmt := top 1
def N_lifted_name : List Str := ["names", "name"]
theorem sc_lifted_name : FnScope N_lifted_name ["names", "name"] (defScope st_lifted_name) := ⟨rfl, rfl, rfl, by decide +kernel, rfl, by decide +kernel, by decide +kernel⟩
abbrev st_lifted_value : Stmt := top 2
def N_lifted_value : List Str := ["names", "value", "part"]
theorem sc_lifted_value : FnScope N_lifted_value ["names", "value"] (defScope st_lifted_value) := ⟨rfl, rfl, rfl, by decide +kernel, rfl, by decide +kernel, by decide +kernel⟩
abbrev st_lifted_end : Stmt := top 3
def N_lifted_end : List Str := ["names", "end", "name"]
theorem sc_lifted_end : FnScope N_lifted_end ["names", "end"] (defScope st_lifted_end) := ⟨rfl, rfl, rfl, by decide +kernel, rfl, by decide +kernel, by decide +kernel⟩
abbrev st_law : Stmt := top 14
def N_law : List Str := ["_law_script", "_law_deal_here", "_law_words_here", "_law_places", "_law_k", "_law_names", "_law_place", "_law_other", "_law_turn", "_law_value_here", "_law_end_here", "_law_told"]
theorem sc_law : FnScope N_law ["_law_script"] (defScope st_law) := ⟨rfl, rfl, rfl, by decide +kernel, rfl, by decide +kernel, by decide +kernel⟩
/-! ### what the defs compute -/
noncomputable def b__law_draw : SS :=
    (sSeq (sWhile (stAnd (tV (eBin eqD (eBin idxD (eVar 0) (eC (.str [110, 117, 109, 98, 101, 114]))) (eC (.int 0)))) (tV (eBin gtD (eLenL 0) (eC (.int 0))))) (sPut 0 (eC (.str [110, 117, 109, 98, 101, 114])) (eFrz (ePopL 0))))
    (sSeq (sSet 2 (eBin idxD (eVar 0) (eC (.str [110, 117, 109, 98, 101, 114]))))
    (sSeq (sIf (tV (eBin gtD (eVar 2) (eC (.int 0)))) (sSeq (sPut 0 (eC (.str [110, 117, 109, 98, 101, 114])) (eBin fdivD (eVar 2) (eVar 1)))
    (sRet (eBin modD (eVar 2) (eVar 1)))) sPass)
    (sSeq (sSet 3 (eBin modD (eBin plusD (eBin timesD (eBin idxD (eVar 0) (eC (.str [115, 101, 101, 100]))) (eC (.int 48271))) (eC (.int 7919))) (eC (.int 2147483647))))
    (sSeq (sPut 0 (eC (.str [115, 101, 101, 100])) (eBin modD (eBin plusD (eBin timesD (eVar 3) (eC (.int 40692))) (eC (.int 104729))) (eC (.int 2147483399))))
    (sSeq (sSet 4 (eBin modD (eBin timesD (eBin idxD (eVar 0) (eC (.str [115, 101, 101, 100]))) (eBin idxD (eVar 0) (eC (.str [115, 101, 101, 100])))) (eC (.int 2147483563))))
    (sRet (eBin modD (eBin plusD (eBin timesD (eBin modD (eBin timesD (eVar 3) (eVar 3)) (eC (.int 2147483629))) (eC (.int 2147483563))) (eVar 4)) (eVar 1)))))))))
noncomputable def g__law_draw : List Ar → FOut := runG 2 5 b__law_draw
theorem n__law_draw : ∀ as, g__law_draw as ≠ .fail → as.length = 2 := runG_len
noncomputable def b__law_any_name : SS :=
    (sSeq (sIf (tV (eBin eqD (eCall g__law_draw (aCons (eVar 0) (aCons (eC (.int 2)) aNil))) (eC (.int 0)))) (sRet (eBin idxD (eVar 1) (eCall g__law_draw (aCons (eVar 0) (aCons (eUn lenD (eVar 1)) aNil))))) sPass)
    (sRet (eBin idxD (eVar 2) (eCall g__law_draw (aCons (eVar 0) (aCons (eUn lenD (eVar 2)) aNil))))))
noncomputable def g__law_any_name : List Ar → FOut := runG 3 3 b__law_any_name
theorem n__law_any_name : ∀ as, g__law_any_name as ≠ .fail → as.length = 3 := runG_len
noncomputable def b__law_any_value (G__law_any_value : List Ar → FOut) : SS :=
    (sSeq (sSet 4 (eCall g__law_draw (aCons (eVar 0) (aCons (eC (.int 5)) aNil))))
    (sSeq (sIf (tV (eBin eqD (eVar 4) (eC (.int 0)))) (sRet (eCall g__law_draw (aCons (eVar 0) (aCons (eC (.int 1000000)) aNil)))) sPass)
    (sSeq (sIf (tV (eBin ltD (eVar 4) (eC (.int 3)))) (sPar 5 6 (aCons (eFrz (eCall g__law_any_name (aCons (eVar 0) (aCons (eFrz (eVar 1)) (aCons (eFrz (eVar 2)) aNil))))) (aCons (eC (.str [97, 115, 107, 101, 100])) aNil))) (sPar 5 6 (aCons (eBin idxD (eVar 1) (eCall g__law_draw (aCons (eVar 0) (aCons (eUn lenD (eVar 1)) aNil)))) (aCons (eC (.str [109, 97, 100, 101])) aNil))))
    (sSeq (sSet 7 (eCall g__law_draw (aCons (eVar 0) (aCons (eBin idxD (eArgs lstD (aCons (eC (.int 1)) (aCons (eC (.int 4)) aNil))) (eUn intD (eBin gtD (eVar 3) (eC (.int 1))))) aNil))))
    (sRet (eArgs tupD (aCons (eFrz (eVar 6)) (aCons (eFrz (eVar 5)) (aCons (eUn tupleD (eLc (iRng (aCons (eVar 7) aNil)) (.nm 8) stYes (eFrz (eCall G__law_any_value (aCons (eVar 0) (aCons (eFrz (eVar 1)) (aCons (eFrz (eVar 2)) (aCons (eBin fdivD (eBin subD (eVar 3) (eC (.int 1))) (eBin maxD (eC (.int 1)) (eVar 7))) aNil)))))))) aNil)))))))))
noncomputable def r__law_any_value : Nat → List Ar → FOut
  | 0 => fun _ => .fail
  | n + 1 => runG 4 9 (b__law_any_value (r__law_any_value n))
theorem nr__law_any_value : ∀ n as, r__law_any_value n as ≠ .fail → as.length = 4
  | 0, as, h => absurd rfl h
  | n + 1, as, h => runG_len as h
noncomputable def g__law_any_value : List Ar → FOut := r__law_any_value 40
theorem n__law_any_value : ∀ as, g__law_any_value as ≠ .fail → as.length = 4 := nr__law_any_value 40
noncomputable def b__law_any_end : SS :=
    (sSeq (sSet 3 (eCall g__law_draw (aCons (eVar 0) (aCons (eC (.int 5)) aNil))))
    (sSeq (sIf (tV (eBin eqD (eVar 3) (eC (.int 0)))) (sRet (eBin idxD (eArgs lstD (aCons (eC .non) (aCons (eArgs tupD (aCons (eC (.str [108, 97, 116, 101])) aNil)) aNil))) (eCall g__law_draw (aCons (eVar 0) (aCons (eC (.int 2)) aNil))))) sPass)
    (sSeq (sIf (tV (eBin eqD (eVar 3) (eC (.int 1)))) (sRet (eArgs tupD (aCons (eC (.str [103, 114, 101, 97, 116])) (aCons (eFrz (eCall g__law_any_name (aCons (eVar 0) (aCons (eFrz (eVar 1)) (aCons (eFrz (eVar 2)) aNil))))) aNil)))) sPass)
    (sSeq (sIf (tV (eBin eqD (eVar 3) (eC (.int 2)))) (sRet (eArgs tupD (aCons (eC (.str [102, 97, 117, 108, 116])) (aCons (eFrz (eCall g__law_any_name (aCons (eVar 0) (aCons (eFrz (eVar 1)) (aCons (eFrz (eVar 2)) aNil))))) (aCons (eFrz (eCall g__law_any_name (aCons (eVar 0) (aCons (eFrz (eVar 1)) (aCons (eFrz (eVar 2)) aNil))))) aNil))))) sPass)
    (sRet (eArgs tupD (aCons (eC (.str [97, 110, 115, 119, 101, 114])) (aCons (eFrz (eCall g__law_any_value (aCons (eVar 0) (aCons (eFrz (eVar 1)) (aCons (eFrz (eVar 2)) (aCons (eC (.int 30)) aNil)))))) aNil))))))))
noncomputable def g__law_any_end : List Ar → FOut := runG 3 4 b__law_any_end
theorem n__law_any_end : ∀ as, g__law_any_end as ≠ .fail → as.length = 3 := runG_len
noncomputable def b__law_deal : SS :=
    (sSeq (sSet 2 (eLc (iOf (eFrz (eSlc (eVar 0) (.at (eVar 1)) (.at (eC (.int 63)))))) (.nm 3) stYes (eBin maxD (eVar 3) (eBin subD (eC (.int 0)) (eVar 3)))))
    (sSeq (sSet 4 (eBin plusD (eC (.int 7919)) (eVar 1)))
    (sSeq (sFor (iOf (eFrz (eVar 2))) (.nm 3) (sSet 4 (eBin modD (eBin plusD (eBin timesD (eVar 4) (eC (.int 48271))) (eBin modD (eVar 3) (eC (.int 2147483629)))) (eC (.int 2147483647)))))
    (sRet (eDeal (eVar 4) (eC (.int 0)) (eUn lrevD (eLc (iOf (eFrz (eVar 2))) (.nm 3) (tV (eBin geD (eVar 3) (eBin powD (eC (.int 10)) (eC (.int 18))))) (eFrz (eVar 3)))))))))
noncomputable def g__law_deal : List Ar → FOut := runG 2 5 b__law_deal
theorem n__law_deal : ∀ as, g__law_deal as ≠ .fail → as.length = 2 := runG_len
noncomputable def b__law_name : SS :=
    (sSeq (sIf (tTr (eUn (isiD "tuple") (eVar 1))) (sRet (eBin idxD (eVar 0) (eVar 1))) sPass)
    (sRet (eVar 1)))
noncomputable def g__law_name : List Ar → FOut := runG 2 2 b__law_name
theorem n__law_name : ∀ as, g__law_name as ≠ .fail → as.length = 2 := runG_len
noncomputable def b__law_value (G__law_value : List Ar → FOut) : SS :=
    (sSeq (sIf (tTr (eUn (isiD "int") (eVar 1))) (sRet (eVar 1)) sPass)
    (sRet (eArgs tupD (aCons (eBin idxD (eVar 1) (eC (.int 0))) (aCons (eFrz (eCall g__law_name (aCons (eFrz (eVar 0)) (aCons (eBin idxD (eVar 1) (eC (.int 1))) aNil)))) (aCons (eUn tupleD (eLc (iOf (eBin idxD (eVar 1) (eC (.int 2)))) (.nm 2) stYes (eFrz (eCall G__law_value (aCons (eFrz (eVar 0)) (aCons (eFrz (eVar 2)) aNil)))))) aNil))))))
noncomputable def r__law_value : Nat → List Ar → FOut
  | 0 => fun _ => .fail
  | n + 1 => runG 2 3 (b__law_value (r__law_value n))
theorem nr__law_value : ∀ n as, r__law_value n as ≠ .fail → as.length = 2
  | 0, as, h => absurd rfl h
  | n + 1, as, h => runG_len as h
noncomputable def g__law_value : List Ar → FOut := r__law_value 40
theorem n__law_value : ∀ as, g__law_value as ≠ .fail → as.length = 2 := nr__law_value 40
noncomputable def b__law_end : SS :=
    (sSeq (sIf (stOr (tV (eBin (isND false) (eVar 1) (eC .non))) (tV (eBin eqD (eBin idxD (eVar 1) (eC (.int 0))) (eC (.str [108, 97, 116, 101]))))) (sRet (eVar 1)) sPass)
    (sSeq (sIf (tV (eBin eqD (eBin idxD (eVar 1) (eC (.int 0))) (eC (.str [97, 110, 115, 119, 101, 114])))) (sRet (eArgs tupD (aCons (eC (.str [97, 110, 115, 119, 101, 114])) (aCons (eFrz (eCall g__law_value (aCons (eFrz (eVar 0)) (aCons (eBin idxD (eVar 1) (eC (.int 1))) aNil)))) aNil)))) sPass)
    (sRet (eBin plusD (eArgs tupD (aCons (eBin idxD (eVar 1) (eC (.int 0))) aNil)) (eUn tupleD (eLc (iOf (eFrz (eSlc (eVar 1) (.at (eC (.int 1))) .no))) (.nm 2) stYes (eFrz (eCall g__law_name (aCons (eFrz (eVar 0)) (aCons (eFrz (eVar 2)) aNil))))))))))
noncomputable def g__law_end : List Ar → FOut := runG 2 3 b__law_end
theorem n__law_end : ∀ as, g__law_end as ≠ .fail → as.length = 2 := runG_len
noncomputable def b__law_words : SS :=
    (sSeq (sSet 2 (eC (.str [97, 98, 99, 100, 101, 102, 103, 104, 105, 106, 107, 108, 109, 110, 111, 112, 113, 114, 115, 116, 117, 118, 119, 120, 121, 122])))
    (sSeq (sSet 3 (eM1 isStrD joinD (eC (.str [])) (eLc (iRng (aCons (eCall g__law_draw (aCons (eVar 0) (aCons (eC (.int 5)) aNil))) aNil)) (.nm 4) stYes (eBin idxD (eVar 2) (eCall g__law_draw (aCons (eVar 0) (aCons (eC (.int 26)) aNil)))))))
    (sSeq (sSet 5 (eCall g__law_draw (aCons (eVar 0) (aCons (eBin plusD (eUn lenD (eVar 3)) (eC (.int 1))) aNil))))
    (sSeq (sSet 6 (eCall g__law_draw (aCons (eVar 0) (aCons (eC (.int 26)) aNil))))
    (sSeq (sSet 7 (eArgs lstD aNil))
    (sSeq (sFor (iRng (aCons (eVar 1) aNil)) (.nm 4) (sSeq (sSet 8 (eBin idxD (eVar 2) (eBin modD (eBin plusD (eVar 6) (eBin timesD (eC (.int 7)) (eVar 4))) (eC (.int 26)))))
    (sSeq (sSet 9 (eBin plusD (eBin plusD (eBin plusD (eBin plusD (eSlc (eVar 3) .no (.at (eVar 5))) (eVar 8)) (eSlc (eVar 3) (.at (eVar 5)) .no)) (eBin timesD (eC (.str [120])) (eBin modD (eVar 4) (eC (.int 2))))) (eBin timesD (eC (.str [121])) (eBin fdivD (eVar 4) (eC (.int 26))))))
    (sSeq (sIf (tV (eBin (memD false) (eVar 9) (eArgs tupD (aCons (eC (.str [109, 97, 100, 101])) (aCons (eC (.str [97, 115, 107, 101, 100])) (aCons (eC (.str [100, 101, 102])) (aCons (eC (.str [116, 97, 98])) (aCons (eC (.str [99, 114, 111, 115, 115])) (aCons (eC (.str [116, 111])) (aCons (eC (.str [110, 117, 109, 98, 101, 114])) aNil)))))))))) (sSet 9 (eBin plusD (eVar 9) (eC (.str [113])))) sPass)
    (sSeq (sIf (tV (eBin (memD false) (eVar 9) (eArgs tupD (aCons (eC (.str [122, 101, 114, 111])) (aCons (eC (.str [108, 101, 116])) (aCons (eC (.str [109, 97, 107, 101])) (aCons (eC (.str [97, 115, 107])) (aCons (eC (.str [99, 97, 115, 101])) (aCons (eC (.str [110, 101, 119])) aNil))))))))) (sSet 9 (eBin plusD (eVar 9) (eC (.str [113])))) sPass)
    (sApp 7 (eFrz (eVar 9))))))))
    (sSeq (sSet 10 (eArgs lstD (aCons (eC (.str [108, 101, 116, 115])) (aCons (eC (.str [97, 115, 107, 115])) (aCons (eC (.str [109, 97, 107, 101, 114])) (aCons (eC (.str [116, 97, 98, 115])) (aCons (eC (.str [116, 111, 111])) (aCons (eC (.str [110, 101, 119, 115])) (aCons (eC (.str [122, 101, 114, 111, 115])) (aCons (eC (.str [99, 97, 115, 101, 121])) (aCons (eC (.str [109, 97, 100, 101, 120])) (aCons (eC (.str [100, 101, 102, 97])) (aCons (eC (.str [110, 117, 109])) (aCons (eC (.str [97, 115, 107, 101, 100, 120])) aNil))))))))))))))
    (sSeq (sSet 9 (eBin idxD (eVar 10) (eCall g__law_draw (aCons (eVar 0) (aCons (eC (.int 12)) aNil)))))
    (sSeq (sIf (stAnd (tV (eBin eqD (eCall g__law_draw (aCons (eVar 0) (aCons (eC (.int 3)) aNil))) (eC (.int 1)))) (tV (eBin (memD true) (eVar 9) (eVar 7)))) (sPut 7 (eCall g__law_draw (aCons (eVar 0) (aCons (eFrz (eVar 1)) aNil))) (eFrz (eVar 9))) sPass)
    (sRet (eVar 7)))))))))))
noncomputable def g__law_words : List Ar → FOut := runG 2 11 b__law_words
theorem n__law_words : ∀ as, g__law_words as ≠ .fail → as.length = 2 := runG_len
noncomputable def b_lifted_name : SS :=
    (sSeq (sIf (tTr (eUn (isiD "tuple") (eVar 1))) (sRet (eBin idxD (eVar 0) (eVar 1))) sPass)
    (sRet (eVar 1)))
noncomputable def g_lifted_name : List Ar → FOut := runG 2 2 b_lifted_name
theorem n_lifted_name : ∀ as, g_lifted_name as ≠ .fail → as.length = 2 := runG_len
noncomputable def b_lifted_value (G_lifted_value : List Ar → FOut) : SS :=
    (sSeq (sIf (tTr (eUn (isiD "int") (eVar 1))) (sRet (eVar 1)) sPass)
    (sRet (eArgs tupD (aCons (eBin idxD (eVar 1) (eC (.int 0))) (aCons (eFrz (eCall g_lifted_name (aCons (eFrz (eVar 0)) (aCons (eBin idxD (eVar 1) (eC (.int 1))) aNil)))) (aCons (eUn tupleD (eLc (iOf (eBin idxD (eVar 1) (eC (.int 2)))) (.nm 2) stYes (eFrz (eCall G_lifted_value (aCons (eFrz (eVar 0)) (aCons (eFrz (eVar 2)) aNil)))))) aNil))))))
noncomputable def r_lifted_value : Nat → List Ar → FOut
  | 0 => fun _ => .fail
  | n + 1 => runG 2 3 (b_lifted_value (r_lifted_value n))
theorem nr_lifted_value : ∀ n as, r_lifted_value n as ≠ .fail → as.length = 2
  | 0, as, h => absurd rfl h
  | n + 1, as, h => runG_len as h
noncomputable def g_lifted_value : List Ar → FOut := r_lifted_value 40
theorem n_lifted_value : ∀ as, g_lifted_value as ≠ .fail → as.length = 2 := nr_lifted_value 40
noncomputable def b_lifted_end : SS :=
    (sSeq (sIf (stOr (tV (eBin (isND false) (eVar 1) (eC .non))) (tV (eBin eqD (eBin idxD (eVar 1) (eC (.int 0))) (eC (.str [108, 97, 116, 101]))))) (sRet (eVar 1)) sPass)
    (sSeq (sIf (tV (eBin eqD (eBin idxD (eVar 1) (eC (.int 0))) (eC (.str [97, 110, 115, 119, 101, 114])))) (sRet (eArgs tupD (aCons (eC (.str [97, 110, 115, 119, 101, 114])) (aCons (eFrz (eCall g_lifted_value (aCons (eFrz (eVar 0)) (aCons (eBin idxD (eVar 1) (eC (.int 1))) aNil)))) aNil)))) sPass)
    (sRet (eBin plusD (eArgs tupD (aCons (eBin idxD (eVar 1) (eC (.int 0))) aNil)) (eUn tupleD (eLc (iOf (eFrz (eSlc (eVar 1) (.at (eC (.int 1))) .no))) (.nm 2) stYes (eFrz (eCall g_lifted_name (aCons (eFrz (eVar 0)) (aCons (eFrz (eVar 2)) aNil))))))))))
noncomputable def g_lifted_end : List Ar → FOut := runG 2 3 b_lifted_end
theorem n_lifted_end : ∀ as, g_lifted_end as ≠ .fail → as.length = 2 := runG_len
noncomputable def b_law : SS :=
    (sSeq (sSet 1 (eCall g__law_deal (aCons (eFrz (eVar 0)) (aCons (eC (.int 0)) aNil))))
    (sSeq (sSet 2 (eCall g__law_words (aCons (eVar 1) (aCons (eC (.int 12)) aNil))))
    (sSeq (sSet 3 (eUn ssetD (eLc (iRng (aCons (eBin plusD (eC (.int 1)) (eCall g__law_draw (aCons (eVar 1) (aCons (eC (.int 8)) aNil)))) aNil)) (.nm 4) stYes (eArgs tupD (aCons (eBin plusD (eC (.int 1)) (eCall g__law_draw (aCons (eVar 1) (aCons (eC (.int 30)) aNil)))) (aCons (eFrz (eCall g__law_draw (aCons (eVar 1) (aCons (eC (.int 4)) aNil)))) aNil))))))
    (sSeq (sSet 5 eNewT)
    (sSeq (sFor (iEnm (eFrz (eVar 3))) (.tup [(.nm 4), (.nm 6)]) (sPut 5 (eVar 6) (eBin plusD (eC (.str [110, 101, 119])) (eBin idxD (eC (.str [97, 98, 99, 100, 101, 102, 103, 104])) (eVar 4)))))
    (sSeq (sSet 7 (eUn dictTD (eLc (iOf (eFrz (eVar 3))) (.nm 6) stYes (eArgs tupD (aCons (eFrz (eVar 6)) (aCons (eBin plusD (eC (.str [122])) (eSlc (eBin idxD (eVar 5) (eVar 6)) (.at (eC (.int 3))) .no)) aNil))))))
    (sSeq (sFor (iRng (aCons (eC (.int 4)) aNil)) (.nm 8) (sSeq (sSet 9 (eCall g__law_any_value (aCons (eVar 1) (aCons (eFrz (eVar 2)) (aCons (eFrz (eVar 3)) (aCons (eC (.int 30)) aNil))))))
    (sSeq (sSet 10 (eCall g__law_any_end (aCons (eVar 1) (aCons (eFrz (eVar 2)) (aCons (eFrz (eVar 3)) aNil)))))
    (sFor (iOf (eArgs tupD (aCons (eFrz (eVar 5)) (aCons (eFrz (eVar 7)) (aCons (eFrz (eVar 5)) aNil))))) (.nm 11) (sSeq (sIf (tV (eBin neD (eCall g_lifted_value (aCons (eFrz (eVar 11)) (aCons (eFrz (eVar 9)) aNil))) (eCall g__law_value (aCons (eFrz (eVar 11)) (aCons (eFrz (eVar 9)) aNil))))) (sRet (eC (.bl false))) sPass)
    (sIf (tV (eBin neD (eCall g_lifted_end (aCons (eFrz (eVar 11)) (aCons (eFrz (eVar 10)) aNil))) (eCall g__law_end (aCons (eFrz (eVar 11)) (aCons (eFrz (eVar 10)) aNil))))) (sRet (eC (.bl false))) sPass))))))
    (sRet (eC (.bl true))))))))))
noncomputable def g_law : List Ar → FOut := runG 1 12 b_law
theorem n_law : ∀ as, g_law as ≠ .fail → as.length = 1 := runG_len
/-! ### what stands behind the top -/
structure Tx (K : PySem.W.Frag) (mg : Str → Option Value) where
  d__law_draw : Dn K mg "_law_draw" st__law_draw ["_law_deal_here", "_law_many"]
  d__law_any_name : Dn K mg "_law_any_name" st__law_any_name ["_law_deal_here", "_law_words_here", "_law_places"]
  d__law_any_value : Dn K mg "_law_any_value" st__law_any_value ["_law_deal_here", "_law_words_here", "_law_places", "_law_room"]
  d__law_any_end : Dn K mg "_law_any_end" st__law_any_end ["_law_deal_here", "_law_words_here", "_law_places"]
  d__law_deal : Dn K mg "_law_deal" st__law_deal ["_law_script", "_law_base"]
  d__law_name : Dn K mg "_law_name" st__law_name ["_law_names", "_law_name_here"]
  d__law_value : Dn K mg "_law_value" st__law_value ["_law_names", "_law_value_here"]
  d__law_end : Dn K mg "_law_end" st__law_end ["_law_names", "_law_end_here"]
  d__law_words : Dn K mg "_law_words" st__law_words ["_law_deal_here", "_law_many"]
  d_lifted_name : Dn K mg "lifted_name" st_lifted_name ["names", "name"]
  d_lifted_value : Dn K mg "lifted_value" st_lifted_value ["names", "value"]
  d_lifted_end : Dn K mg "lifted_end" st_lifted_end ["names", "end"]
  d_law : Dn K mg "law" st_law ["_law_script"]
  z_dict : mg "dict" = none
  z_enumerate : mg "enumerate" = none
  z_int : mg "int" = none
  z_isinstance : mg "isinstance" = none
  z_len : mg "len" = none
  z_list : mg "list" = none
  z_max : mg "max" = none
  z_range : mg "range" = none
  z_reversed : mg "reversed" = none
  z_set : mg "set" = none
  z_sorted : mg "sorted" = none
  z_tuple : mg "tuple" = none
section
variable {P : Program} {w : World} {K : PySem.W.Frag} {mg : Str → Option Value} {base : Heap}
theorem ok__law_draw (T : Tx K mg) : FnOk P w K mg base (L2.CX P w) 1 T.d__law_draw.f T.d__law_draw.fd ["_law_deal_here", "_law_many"] (fsp K mg 2 g__law_draw) := by
  refine fn_okG T.d__law_draw.F sc__law_draw fun X E cdv A outer s H hX C => ?_
  subst hX
  exact (pbd_cons (psd_while C (PWd.pt (pwd_and (ptd_cmp (op_eqDD C.u64) (pd_ix C (pd_var 0) (pd_str [110, 117, 109, 98, 101, 114])) pd_int) (pwd_and1 (ptd_cmp op_gtD (pd_lenL 0 C T.z_len) pd_int)))) (pbd_one (psd_put 0 C (pd_str [110, 117, 109, 98, 101, 114]) (pd_frz (pd_popL 0 C)))))
    (pbd_cons (psd_set 2 C.nd (pd_ix C (pd_var 0) (pd_str [110, 117, 109, 98, 101, 114])))
    (pbd_cons (psd_if (ptd_cmp op_gtD (pd_var 2) pd_int) (pbd_cons (psd_put 0 C (pd_str [110, 117, 109, 98, 101, 114]) (pd_op op_fdivD (pd_var 2) (pd_var 1)))
    (pbd_one (psd_ret (pd_op op_modD (pd_var 2) (pd_var 1))))) pbd_nil)
    (pbd_cons (psd_set 3 C.nd (pd_op op_modD (pd_op op_plusD (pd_op op_timesD (pd_ix C (pd_var 0) (pd_str [115, 101, 101, 100])) pd_int) pd_int) pd_int))
    (pbd_cons (psd_put 0 C (pd_str [115, 101, 101, 100]) (pd_op op_modD (pd_op op_plusD (pd_op op_timesD (pd_var 3) pd_int) pd_int) pd_int))
    (pbd_cons (psd_set 4 C.nd (pd_op op_modD (pd_op op_timesD (pd_ix C (pd_var 0) (pd_str [115, 101, 101, 100])) (pd_ix C (pd_var 0) (pd_str [115, 101, 101, 100]))) pd_int))
    (pbd_one (psd_ret (pd_op op_modD (pd_op op_plusD (pd_op op_timesD (pd_op op_modD (pd_op op_timesD (pd_var 3) (pd_var 3)) pd_int) pd_int) (pd_var 4)) (pd_var 1))))))))))
theorem ok__law_any_name (T : Tx K mg) : FnOk P w K mg base (L2.CX P w) 2 T.d__law_any_name.f T.d__law_any_name.fd ["_law_deal_here", "_law_words_here", "_law_places"] (fsp K mg 3 g__law_any_name) := by
  refine fn_okG T.d__law_any_name.F sc__law_any_name fun X E cdv A outer s H hX C => ?_
  subst hX
  exact (pbd_cons (psd_if (ptd_cmp (op_eqDD C.u64) (pd_call C (ok__law_draw T) T.d__law_draw.g T.d__law_draw.F.kp T.d__law_draw.b n__law_draw (pad_cons (pd_var 0) (pad_cons pd_int pad_nil))) pd_int) (pbd_one (psd_ret (pd_ix C (pd_var 1) (pd_call C (ok__law_draw T) T.d__law_draw.g T.d__law_draw.F.kp T.d__law_draw.b n__law_draw (pad_cons (pd_var 0) (pad_cons (pd_call1 T.z_len (by rfl) call_lenD (pd_var 1)) pad_nil)))))) pbd_nil)
    (pbd_one (psd_ret (pd_ix C (pd_var 2) (pd_call C (ok__law_draw T) T.d__law_draw.g T.d__law_draw.F.kp T.d__law_draw.b n__law_draw (pad_cons (pd_var 0) (pad_cons (pd_call1 T.z_len (by rfl) call_lenD (pd_var 2)) pad_nil)))))))
theorem okr__law_any_value (T : Tx K mg) : ∀ n, FnOk P w K mg base (L2.CX P w) (2 + n) T.d__law_any_value.f T.d__law_any_value.fd ["_law_deal_here", "_law_words_here", "_law_places", "_law_room"] (fsp K mg 4 (r__law_any_value n))
  | 0 => fn_none
  | n + 1 => by
    have ih := okr__law_any_value T n
    · refine fn_okG T.d__law_any_value.F sc__law_any_value fun X E cdv A outer s H hX C => ?_
      subst hX
      exact (pbd_cons (psd_set 4 C.nd (pd_call C (ok__law_draw T) T.d__law_draw.g T.d__law_draw.F.kp T.d__law_draw.b n__law_draw (pad_cons (pd_var 0) (pad_cons pd_int pad_nil)) (Nat.le_trans (show 1 ≤ 2 by decide) (Nat.le_add_right 2 n))))
          (pbd_cons (psd_if (ptd_cmp (op_eqDD C.u64) (pd_var 4) pd_int) (pbd_one (psd_ret (pd_call C (ok__law_draw T) T.d__law_draw.g T.d__law_draw.F.kp T.d__law_draw.b n__law_draw (pad_cons (pd_var 0) (pad_cons pd_int pad_nil)) (Nat.le_trans (show 1 ≤ 2 by decide) (Nat.le_add_right 2 n))))) pbd_nil)
          (pbd_cons (psd_if (ptd_cmp op_ltD (pd_var 4) pd_int) (pbd_one (psd_par (i := 5) (j := 6) C (pad_cons (pd_frz (pd_call C (ok__law_any_name T) T.d__law_any_name.g T.d__law_any_name.F.kp T.d__law_any_name.b n__law_any_name (pad_cons (pd_var 0) (pad_cons (pd_frz (pd_var 1)) (pad_cons (pd_frz (pd_var 2)) pad_nil))) (Nat.le_trans (show 2 ≤ 2 by decide) (Nat.le_add_right 2 n)))) (pad_cons (pd_str [97, 115, 107, 101, 100]) pad_nil)))) (pbd_one (psd_par (i := 5) (j := 6) C (pad_cons (pd_ix C (pd_var 1) (pd_call C (ok__law_draw T) T.d__law_draw.g T.d__law_draw.F.kp T.d__law_draw.b n__law_draw (pad_cons (pd_var 0) (pad_cons (pd_call1 T.z_len (by rfl) call_lenD (pd_var 1)) pad_nil)) (Nat.le_trans (show 1 ≤ 2 by decide) (Nat.le_add_right 2 n)))) (pad_cons (pd_str [109, 97, 100, 101]) pad_nil)))))
          (pbd_cons (psd_set 7 C.nd (pd_call C (ok__law_draw T) T.d__law_draw.g T.d__law_draw.F.kp T.d__law_draw.b n__law_draw (pad_cons (pd_var 0) (pad_cons (pd_ix C (pd_lst (pad_cons pd_int (pad_cons pd_int pad_nil))) (pd_callT1 T.z_int (by rfl) call_intD (pd_cmp op_gtD (pd_var 3) pd_int))) pad_nil)) (Nat.le_trans (show 1 ≤ 2 by decide) (Nat.le_add_right 2 n))))
          (pbd_one (psd_ret (pd_tup (pad_cons (pd_frz (pd_var 6)) (pad_cons (pd_frz (pd_var 5)) (pad_cons (pd_callT1 T.z_tuple (by rfl) call_tupleD (pd_lc C [("_law_k", 8)] rfl (pid_rng1 T.z_range (pad_cons (pd_var 7) pad_nil)) (blkOk_by (own := [("_law_k", 8)]) (N := N__law_any_value) (sc := defScope st__law_any_value) (by decide +kernel)) (fun s H D cl fp C => ⟨(pgd_nm 8 C.nd), ptsd_nil, (pd_frz (pd_call C ih T.d__law_any_value.g T.d__law_any_value.F.kp T.d__law_any_value.b (nr__law_any_value n) (pad_cons (pd_var 0) (pad_cons (pd_frz (pd_var 1)) (pad_cons (pd_frz (pd_var 2)) (pad_cons (pd_op op_fdivD (pd_op op_subD (pd_var 3) pd_int) (pd_call2 T.z_max (by rfl) (call_maxD C.calm) pd_int (pd_var 7))) pad_nil)))) (Nat.le_refl _)))⟩))) pad_nil))))))))))
theorem ok__law_any_value (T : Tx K mg) : FnOk P w K mg base (L2.CX P w) 42 T.d__law_any_value.f T.d__law_any_value.fd ["_law_deal_here", "_law_words_here", "_law_places", "_law_room"] (fsp K mg 4 g__law_any_value) := (okr__law_any_value T 40)
theorem ok__law_any_end (T : Tx K mg) : FnOk P w K mg base (L2.CX P w) 43 T.d__law_any_end.f T.d__law_any_end.fd ["_law_deal_here", "_law_words_here", "_law_places"] (fsp K mg 3 g__law_any_end) := by
  refine fn_okG T.d__law_any_end.F sc__law_any_end fun X E cdv A outer s H hX C => ?_
  subst hX
  exact (pbd_cons (psd_set 3 C.nd (pd_call C (ok__law_draw T) T.d__law_draw.g T.d__law_draw.F.kp T.d__law_draw.b n__law_draw (pad_cons (pd_var 0) (pad_cons pd_int pad_nil))))
    (pbd_cons (psd_if (ptd_cmp (op_eqDD C.u64) (pd_var 3) pd_int) (pbd_one (psd_ret (pd_ix C (pd_lst (pad_cons pd_non (pad_cons (pd_tup (pad_cons (pd_str [108, 97, 116, 101]) pad_nil)) pad_nil))) (pd_call C (ok__law_draw T) T.d__law_draw.g T.d__law_draw.F.kp T.d__law_draw.b n__law_draw (pad_cons (pd_var 0) (pad_cons pd_int pad_nil)))))) pbd_nil)
    (pbd_cons (psd_if (ptd_cmp (op_eqDD C.u64) (pd_var 3) pd_int) (pbd_one (psd_ret (pd_tup (pad_cons (pd_str [103, 114, 101, 97, 116]) (pad_cons (pd_frz (pd_call C (ok__law_any_name T) T.d__law_any_name.g T.d__law_any_name.F.kp T.d__law_any_name.b n__law_any_name (pad_cons (pd_var 0) (pad_cons (pd_frz (pd_var 1)) (pad_cons (pd_frz (pd_var 2)) pad_nil))))) pad_nil))))) pbd_nil)
    (pbd_cons (psd_if (ptd_cmp (op_eqDD C.u64) (pd_var 3) pd_int) (pbd_one (psd_ret (pd_tup (pad_cons (pd_str [102, 97, 117, 108, 116]) (pad_cons (pd_frz (pd_call C (ok__law_any_name T) T.d__law_any_name.g T.d__law_any_name.F.kp T.d__law_any_name.b n__law_any_name (pad_cons (pd_var 0) (pad_cons (pd_frz (pd_var 1)) (pad_cons (pd_frz (pd_var 2)) pad_nil))))) (pad_cons (pd_frz (pd_call C (ok__law_any_name T) T.d__law_any_name.g T.d__law_any_name.F.kp T.d__law_any_name.b n__law_any_name (pad_cons (pd_var 0) (pad_cons (pd_frz (pd_var 1)) (pad_cons (pd_frz (pd_var 2)) pad_nil))))) pad_nil)))))) pbd_nil)
    (pbd_one (psd_ret (pd_tup (pad_cons (pd_str [97, 110, 115, 119, 101, 114]) (pad_cons (pd_frz (pd_call C (ok__law_any_value T) T.d__law_any_value.g T.d__law_any_value.F.kp T.d__law_any_value.b n__law_any_value (pad_cons (pd_var 0) (pad_cons (pd_frz (pd_var 1)) (pad_cons (pd_frz (pd_var 2)) (pad_cons pd_int pad_nil)))))) pad_nil)))))))))
theorem ok__law_deal (T : Tx K mg) : FnOk P w K mg base (L2.CX P w) 1 T.d__law_deal.f T.d__law_deal.fd ["_law_script", "_law_base"] (fsp K mg 2 g__law_deal) := by
  refine fn_okG T.d__law_deal.F sc__law_deal fun X E cdv A outer s H hX C => ?_
  subst hX
  exact (pbd_cons (psd_setLc 2 C [("_law_one", 3)] rfl (pid_of (pd_frz (pd_slc (pd_var 0) (pod_at (pd_var 1)) (pod_at pd_int)))) (blkOk_by (own := [("_law_one", 3)]) (N := N__law_deal) (sc := defScope st__law_deal) (by decide +kernel)) (fun s H D cl fp C => ⟨(pgd_nm 3 C.nd), ptsd_nil, (pd_call2 T.z_max (by rfl) (call_maxD C.calm) (pd_var 3) (pd_op op_subD pd_int (pd_var 3)))⟩) (sw_true rfl rfl rfl (by decide +kernel)))
    (pbd_cons (psd_set 4 C.nd (pd_op op_plusD pd_int (pd_var 1)))
    (pbd_cons (psd_for C (pid_of (pd_frz (pd_var 2))) (pgd_nm 3 C.nd) (pbd_one (psd_set 4 C.nd (pd_op op_modD (pd_op op_plusD (pd_op op_timesD (pd_var 4) pd_int) (pd_op op_modD (pd_var 3) pd_int)) pd_int))))
    (pbd_one (psd_ret (pd_deal (pd_var 4) pd_int (pd_lrev C T.z_list T.z_reversed (pd_lc C [("_law_one", 3)] rfl (pid_of (pd_frz (pd_var 2))) (blkOk_by (own := [("_law_one", 3)]) (N := N__law_deal) (sc := defScope st__law_deal) (by decide +kernel)) (fun s H D cl fp C => ⟨(pgd_nm 3 C.nd), (ptsd_one (ptd_cmp op_geD (pd_var 3) (pd_op op_powD pd_int pd_int))), (pd_frz (pd_var 3))⟩)))))))))
theorem ok__law_name (T : Tx K mg) : FnOk P w K mg base (L2.CX P w) 1 T.d__law_name.f T.d__law_name.fd ["_law_names", "_law_name_here"] (fsp K mg 2 g__law_name) := by
  refine fn_okG T.d__law_name.F sc__law_name fun X E cdv A outer s H hX C => ?_
  subst hX
  exact (pbd_cons (psd_if (ptd_tru (pd_isi "tuple" T.z_isinstance T.z_tuple (by rfl) (pd_var 1))) (pbd_one (psd_ret (pd_ix C (pd_var 0) (pd_var 1)))) pbd_nil)
    (pbd_one (psd_ret (pd_var 1))))
theorem okr__law_value (T : Tx K mg) : ∀ n, FnOk P w K mg base (L2.CX P w) (1 + n) T.d__law_value.f T.d__law_value.fd ["_law_names", "_law_value_here"] (fsp K mg 2 (r__law_value n))
  | 0 => fn_none
  | n + 1 => by
    have ih := okr__law_value T n
    · refine fn_okG T.d__law_value.F sc__law_value fun X E cdv A outer s H hX C => ?_
      subst hX
      exact (pbd_cons (psd_if (ptd_tru (pd_isi "int" T.z_isinstance T.z_int (by rfl) (pd_var 1))) (pbd_one (psd_ret (pd_var 1))) pbd_nil)
          (pbd_one (psd_ret (pd_tup (pad_cons (pd_ix C (pd_var 1) pd_int) (pad_cons (pd_frz (pd_call C (ok__law_name T) T.d__law_name.g T.d__law_name.F.kp T.d__law_name.b n__law_name (pad_cons (pd_frz (pd_var 0)) (pad_cons (pd_ix C (pd_var 1) pd_int) pad_nil)) (Nat.le_trans (show 1 ≤ 1 by decide) (Nat.le_add_right 1 n)))) (pad_cons (pd_callT1 T.z_tuple (by rfl) call_tupleD (pd_lc C [("_law_part", 2)] rfl (pid_of (pd_ix C (pd_var 1) pd_int)) (blkOk_by (own := [("_law_part", 2)]) (N := N__law_value) (sc := defScope st__law_value) (by decide +kernel)) (fun s H D cl fp C => ⟨(pgd_nm 2 C.nd), ptsd_nil, (pd_frz (pd_call C ih T.d__law_value.g T.d__law_value.F.kp T.d__law_value.b (nr__law_value n) (pad_cons (pd_frz (pd_var 0)) (pad_cons (pd_frz (pd_var 2)) pad_nil)) (Nat.le_refl _)))⟩))) pad_nil)))))))
theorem ok__law_value (T : Tx K mg) : FnOk P w K mg base (L2.CX P w) 41 T.d__law_value.f T.d__law_value.fd ["_law_names", "_law_value_here"] (fsp K mg 2 g__law_value) := (okr__law_value T 40)
theorem ok__law_end (T : Tx K mg) : FnOk P w K mg base (L2.CX P w) 42 T.d__law_end.f T.d__law_end.fd ["_law_names", "_law_end_here"] (fsp K mg 2 g__law_end) := by
  refine fn_okG T.d__law_end.F sc__law_end fun X E cdv A outer s H hX C => ?_
  subst hX
  exact (pbd_cons (psd_if (PWd.pt (pwd_or (ptd_cmp op_isND (pd_var 1) pd_non) (pwd_or1 (ptd_cmp (op_eqDD C.u64) (pd_ix C (pd_var 1) pd_int) (pd_str [108, 97, 116, 101]))))) (pbd_one (psd_ret (pd_var 1))) pbd_nil)
    (pbd_cons (psd_if (ptd_cmp (op_eqDD C.u64) (pd_ix C (pd_var 1) pd_int) (pd_str [97, 110, 115, 119, 101, 114])) (pbd_one (psd_ret (pd_tup (pad_cons (pd_str [97, 110, 115, 119, 101, 114]) (pad_cons (pd_frz (pd_call C (ok__law_value T) T.d__law_value.g T.d__law_value.F.kp T.d__law_value.b n__law_value (pad_cons (pd_frz (pd_var 0)) (pad_cons (pd_ix C (pd_var 1) pd_int) pad_nil)))) pad_nil))))) pbd_nil)
    (pbd_one (psd_ret (pd_op op_plusD (pd_tup (pad_cons (pd_ix C (pd_var 1) pd_int) pad_nil)) (pd_callT1 T.z_tuple (by rfl) call_tupleD (pd_lc C [("_law_name_here", 2)] rfl (pid_of (pd_frz (pd_slc (pd_var 1) (pod_at pd_int) pod_no))) (blkOk_by (own := [("_law_name_here", 2)]) (N := N__law_end) (sc := defScope st__law_end) (by decide +kernel)) (fun s H D cl fp C => ⟨(pgd_nm 2 C.nd), ptsd_nil, (pd_frz (pd_call C (ok__law_name T) T.d__law_name.g T.d__law_name.F.kp T.d__law_name.b n__law_name (pad_cons (pd_frz (pd_var 0)) (pad_cons (pd_frz (pd_var 2)) pad_nil))))⟩))))))))
theorem ok__law_words (T : Tx K mg) : FnOk P w K mg base (L2.CX P w) 2 T.d__law_words.f T.d__law_words.fd ["_law_deal_here", "_law_many"] (fsp K mg 2 g__law_words) := by
  refine fn_okG T.d__law_words.F sc__law_words fun X E cdv A outer s H hX C => ?_
  subst hX
  exact (pbd_cons (psd_set 2 C.nd (pd_str [97, 98, 99, 100, 101, 102, 103, 104, 105, 106, 107, 108, 109, 110, 111, 112, 113, 114, 115, 116, 117, 118, 119, 120, 121, 122]))
    (pbd_cons (psd_set 3 C.nd (pd_join (pd_str []) (pd_lc C [("_law_k", 4)] rfl (pid_rng1 T.z_range (pad_cons (pd_call C (ok__law_draw T) T.d__law_draw.g T.d__law_draw.F.kp T.d__law_draw.b n__law_draw (pad_cons (pd_var 0) (pad_cons pd_int pad_nil))) pad_nil)) (blkOk_by (own := [("_law_k", 4)]) (N := N__law_words) (sc := defScope st__law_words) (by decide +kernel)) (fun s H D cl fp C => ⟨(pgd_nm 4 C.nd), ptsd_nil, (pd_ix C (pd_var 2) (pd_call C (ok__law_draw T) T.d__law_draw.g T.d__law_draw.F.kp T.d__law_draw.b n__law_draw (pad_cons (pd_var 0) (pad_cons pd_int pad_nil))))⟩))))
    (pbd_cons (psd_set 5 C.nd (pd_call C (ok__law_draw T) T.d__law_draw.g T.d__law_draw.F.kp T.d__law_draw.b n__law_draw (pad_cons (pd_var 0) (pad_cons (pd_op op_plusD (pd_call1 T.z_len (by rfl) call_lenD (pd_var 3)) pd_int) pad_nil))))
    (pbd_cons (psd_set 6 C.nd (pd_call C (ok__law_draw T) T.d__law_draw.g T.d__law_draw.F.kp T.d__law_draw.b n__law_draw (pad_cons (pd_var 0) (pad_cons pd_int pad_nil))))
    (pbd_cons (psd_set 7 C.nd (pd_lst pad_nil))
    (pbd_cons (psd_for C (pid_rng1 T.z_range (pad_cons (pd_var 1) pad_nil)) (pgd_nm 4 C.nd) (pbd_cons (psd_set 8 C.nd (pd_ix C (pd_var 2) (pd_op op_modD (pd_op op_plusD (pd_var 6) (pd_op op_timesD pd_int (pd_var 4))) pd_int)))
    (pbd_cons (psd_set 9 C.nd (pd_op op_plusD (pd_op op_plusD (pd_op op_plusD (pd_op op_plusD (pd_slc (pd_var 3) pod_no (pod_at (pd_var 5))) (pd_var 8)) (pd_slc (pd_var 3) (pod_at (pd_var 5)) pod_no)) (pd_op op_timesD (pd_str [120]) (pd_op op_modD (pd_var 4) pd_int))) (pd_op op_timesD (pd_str [121]) (pd_op op_fdivD (pd_var 4) pd_int))))
    (pbd_cons (psd_if (ptd_cmp (op_memD C.u1) (pd_var 9) (pd_tup (pad_cons (pd_str [109, 97, 100, 101]) (pad_cons (pd_str [97, 115, 107, 101, 100]) (pad_cons (pd_str [100, 101, 102]) (pad_cons (pd_str [116, 97, 98]) (pad_cons (pd_str [99, 114, 111, 115, 115]) (pad_cons (pd_str [116, 111]) (pad_cons (pd_str [110, 117, 109, 98, 101, 114]) pad_nil))))))))) (pbd_one (psd_set 9 C.nd (pd_op op_plusD (pd_var 9) (pd_str [113])))) pbd_nil)
    (pbd_cons (psd_if (ptd_cmp (op_memD C.u1) (pd_var 9) (pd_tup (pad_cons (pd_str [122, 101, 114, 111]) (pad_cons (pd_str [108, 101, 116]) (pad_cons (pd_str [109, 97, 107, 101]) (pad_cons (pd_str [97, 115, 107]) (pad_cons (pd_str [99, 97, 115, 101]) (pad_cons (pd_str [110, 101, 119]) pad_nil)))))))) (pbd_one (psd_set 9 C.nd (pd_op op_plusD (pd_var 9) (pd_str [113])))) pbd_nil)
    (pbd_one (psd_app (pd_frz (pd_var 9)))))))))
    (pbd_cons (psd_set 10 C.nd (pd_lst (pad_cons (pd_str [108, 101, 116, 115]) (pad_cons (pd_str [97, 115, 107, 115]) (pad_cons (pd_str [109, 97, 107, 101, 114]) (pad_cons (pd_str [116, 97, 98, 115]) (pad_cons (pd_str [116, 111, 111]) (pad_cons (pd_str [110, 101, 119, 115]) (pad_cons (pd_str [122, 101, 114, 111, 115]) (pad_cons (pd_str [99, 97, 115, 101, 121]) (pad_cons (pd_str [109, 97, 100, 101, 120]) (pad_cons (pd_str [100, 101, 102, 97]) (pad_cons (pd_str [110, 117, 109]) (pad_cons (pd_str [97, 115, 107, 101, 100, 120]) pad_nil))))))))))))))
    (pbd_cons (psd_set 9 C.nd (pd_ix C (pd_var 10) (pd_call C (ok__law_draw T) T.d__law_draw.g T.d__law_draw.F.kp T.d__law_draw.b n__law_draw (pad_cons (pd_var 0) (pad_cons pd_int pad_nil)))))
    (pbd_cons (psd_if (PWd.pt (pwd_and (ptd_cmp (op_eqDD C.u64) (pd_call C (ok__law_draw T) T.d__law_draw.g T.d__law_draw.F.kp T.d__law_draw.b n__law_draw (pad_cons (pd_var 0) (pad_cons pd_int pad_nil))) pd_int) (pwd_and1 (ptd_cmp (op_nmemD C.u1) (pd_var 9) (pd_var 7))))) (pbd_one (psd_put 7 C (pd_call C (ok__law_draw T) T.d__law_draw.g T.d__law_draw.F.kp T.d__law_draw.b n__law_draw (pad_cons (pd_var 0) (pad_cons (pd_frz (pd_var 1)) pad_nil))) (pd_frz (pd_var 9)))) pbd_nil)
    (pbd_one (psd_ret (pd_var 7))))))))))))
theorem ok_lifted_name (T : Tx K mg) : FnOk P w K mg base (L2.CX P w) 1 T.d_lifted_name.f T.d_lifted_name.fd ["names", "name"] (fsp K mg 2 g_lifted_name) := by
  refine fn_okG T.d_lifted_name.F sc_lifted_name fun X E cdv A outer s H hX C => ?_
  subst hX
  exact (pbd_cons (psd_if (ptd_tru (pd_isi "tuple" T.z_isinstance T.z_tuple (by rfl) (pd_var 1))) (pbd_one (psd_ret (pd_ix C (pd_var 0) (pd_var 1)))) pbd_nil)
    (pbd_one (psd_ret (pd_var 1))))
theorem okr_lifted_value (T : Tx K mg) : ∀ n, FnOk P w K mg base (L2.CX P w) (1 + n) T.d_lifted_value.f T.d_lifted_value.fd ["names", "value"] (fsp K mg 2 (r_lifted_value n))
  | 0 => fn_none
  | n + 1 => by
    have ih := okr_lifted_value T n
    · refine fn_okG T.d_lifted_value.F sc_lifted_value fun X E cdv A outer s H hX C => ?_
      subst hX
      exact (pbd_cons (psd_if (ptd_tru (pd_isi "int" T.z_isinstance T.z_int (by rfl) (pd_var 1))) (pbd_one (psd_ret (pd_var 1))) pbd_nil)
          (pbd_one (psd_ret (pd_tup (pad_cons (pd_ix C (pd_var 1) pd_int) (pad_cons (pd_frz (pd_call C (ok_lifted_name T) T.d_lifted_name.g T.d_lifted_name.F.kp T.d_lifted_name.b n_lifted_name (pad_cons (pd_frz (pd_var 0)) (pad_cons (pd_ix C (pd_var 1) pd_int) pad_nil)) (Nat.le_trans (show 1 ≤ 1 by decide) (Nat.le_add_right 1 n)))) (pad_cons (pd_callT1 T.z_tuple (by rfl) call_tupleD (pd_lc C [("part", 2)] rfl (pid_of (pd_ix C (pd_var 1) pd_int)) (blkOk_by (own := [("part", 2)]) (N := N_lifted_value) (sc := defScope st_lifted_value) (by decide +kernel)) (fun s H D cl fp C => ⟨(pgd_nm 2 C.nd), ptsd_nil, (pd_frz (pd_call C ih T.d_lifted_value.g T.d_lifted_value.F.kp T.d_lifted_value.b (nr_lifted_value n) (pad_cons (pd_frz (pd_var 0)) (pad_cons (pd_frz (pd_var 2)) pad_nil)) (Nat.le_refl _)))⟩))) pad_nil)))))))
theorem ok_lifted_value (T : Tx K mg) : FnOk P w K mg base (L2.CX P w) 41 T.d_lifted_value.f T.d_lifted_value.fd ["names", "value"] (fsp K mg 2 g_lifted_value) := (okr_lifted_value T 40)
theorem ok_lifted_end (T : Tx K mg) : FnOk P w K mg base (L2.CX P w) 42 T.d_lifted_end.f T.d_lifted_end.fd ["names", "end"] (fsp K mg 2 g_lifted_end) := by
  refine fn_okG T.d_lifted_end.F sc_lifted_end fun X E cdv A outer s H hX C => ?_
  subst hX
  exact (pbd_cons (psd_if (PWd.pt (pwd_or (ptd_cmp op_isND (pd_var 1) pd_non) (pwd_or1 (ptd_cmp (op_eqDD C.u64) (pd_ix C (pd_var 1) pd_int) (pd_str [108, 97, 116, 101]))))) (pbd_one (psd_ret (pd_var 1))) pbd_nil)
    (pbd_cons (psd_if (ptd_cmp (op_eqDD C.u64) (pd_ix C (pd_var 1) pd_int) (pd_str [97, 110, 115, 119, 101, 114])) (pbd_one (psd_ret (pd_tup (pad_cons (pd_str [97, 110, 115, 119, 101, 114]) (pad_cons (pd_frz (pd_call C (ok_lifted_value T) T.d_lifted_value.g T.d_lifted_value.F.kp T.d_lifted_value.b n_lifted_value (pad_cons (pd_frz (pd_var 0)) (pad_cons (pd_ix C (pd_var 1) pd_int) pad_nil)))) pad_nil))))) pbd_nil)
    (pbd_one (psd_ret (pd_op op_plusD (pd_tup (pad_cons (pd_ix C (pd_var 1) pd_int) pad_nil)) (pd_callT1 T.z_tuple (by rfl) call_tupleD (pd_lc C [("name", 2)] rfl (pid_of (pd_frz (pd_slc (pd_var 1) (pod_at pd_int) pod_no))) (blkOk_by (own := [("name", 2)]) (N := N_lifted_end) (sc := defScope st_lifted_end) (by decide +kernel)) (fun s H D cl fp C => ⟨(pgd_nm 2 C.nd), ptsd_nil, (pd_frz (pd_call C (ok_lifted_name T) T.d_lifted_name.g T.d_lifted_name.F.kp T.d_lifted_name.b n_lifted_name (pad_cons (pd_frz (pd_var 0)) (pad_cons (pd_frz (pd_var 2)) pad_nil))))⟩))))))))
theorem ok_law (T : Tx K mg) : FnOk P w K mg base (L2.CX P w) 44 T.d_law.f T.d_law.fd ["_law_script"] (fsp K mg 1 g_law) := by
  refine fn_okG T.d_law.F sc_law fun X E cdv A outer s H hX C => ?_
  subst hX
  exact (pbd_cons (psd_set 1 C.nd (pd_call C (ok__law_deal T) T.d__law_deal.g T.d__law_deal.F.kp T.d__law_deal.b n__law_deal (pad_cons (pd_frz (pd_var 0)) (pad_cons pd_int pad_nil))))
    (pbd_cons (psd_set 2 C.nd (pd_call C (ok__law_words T) T.d__law_words.g T.d__law_words.F.kp T.d__law_words.b n__law_words (pad_cons (pd_var 1) (pad_cons pd_int pad_nil))))
    (pbd_cons (psd_set 3 C.nd (pd_sset C T.z_sorted T.z_set (pd_lc C [("_law_k", 4)] rfl (pid_rng1 T.z_range (pad_cons (pd_op op_plusD pd_int (pd_call C (ok__law_draw T) T.d__law_draw.g T.d__law_draw.F.kp T.d__law_draw.b n__law_draw (pad_cons (pd_var 1) (pad_cons pd_int pad_nil)))) pad_nil)) (blkOk_by (own := [("_law_k", 4)]) (N := N_law) (sc := defScope st_law) (by decide +kernel)) (fun s H D cl fp C => ⟨(pgd_nm 4 C.nd), ptsd_nil, (pd_tup (pad_cons (pd_op op_plusD pd_int (pd_call C (ok__law_draw T) T.d__law_draw.g T.d__law_draw.F.kp T.d__law_draw.b n__law_draw (pad_cons (pd_var 1) (pad_cons pd_int pad_nil)))) (pad_cons (pd_frz (pd_call C (ok__law_draw T) T.d__law_draw.g T.d__law_draw.F.kp T.d__law_draw.b n__law_draw (pad_cons (pd_var 1) (pad_cons pd_int pad_nil)))) pad_nil)))⟩))))
    (pbd_cons (psd_set 5 C.nd pd_newT)
    (pbd_cons (psd_for C (pid_enum T.z_enumerate (pd_frz (pd_var 3))) (pgd_tup C.calm (pgd_cons (pgd_nm 4 C.nd) (pgd_cons (pgd_nm 6 C.nd) pgd_nil))) (pbd_one (psd_put 5 C (pd_var 6) (pd_op op_plusD (pd_str [110, 101, 119]) (pd_ix C (pd_str [97, 98, 99, 100, 101, 102, 103, 104]) (pd_var 4))))))
    (pbd_cons (psd_set 7 C.nd (pd_callT1 T.z_dict (by rfl) (call_dictTD C.calm C.u64x) (pd_lc C [("_law_place", 6)] rfl (pid_of (pd_frz (pd_var 3))) (blkOk_by (own := [("_law_place", 6)]) (N := N_law) (sc := defScope st_law) (by decide +kernel)) (fun s H D cl fp C => ⟨(pgd_nm 6 C.nd), ptsd_nil, (pd_tup (pad_cons (pd_frz (pd_var 6)) (pad_cons (pd_op op_plusD (pd_str [122]) (pd_slc (pd_ix C (pd_var 5) (pd_var 6)) (pod_at pd_int) pod_no)) pad_nil)))⟩))))
    (pbd_cons (psd_for C (pid_rng1 T.z_range (pad_cons pd_int pad_nil)) (pgd_nm 8 C.nd) (pbd_cons (psd_set 9 C.nd (pd_call C (ok__law_any_value T) T.d__law_any_value.g T.d__law_any_value.F.kp T.d__law_any_value.b n__law_any_value (pad_cons (pd_var 1) (pad_cons (pd_frz (pd_var 2)) (pad_cons (pd_frz (pd_var 3)) (pad_cons pd_int pad_nil))))))
    (pbd_cons (psd_set 10 C.nd (pd_call C (ok__law_any_end T) T.d__law_any_end.g T.d__law_any_end.F.kp T.d__law_any_end.b n__law_any_end (pad_cons (pd_var 1) (pad_cons (pd_frz (pd_var 2)) (pad_cons (pd_frz (pd_var 3)) pad_nil)))))
    (pbd_one (psd_for C (pid_of (pd_tup (pad_cons (pd_frz (pd_var 5)) (pad_cons (pd_frz (pd_var 7)) (pad_cons (pd_frz (pd_var 5)) pad_nil))))) (pgd_nm 11 C.nd) (pbd_cons (psd_if (ptd_cmp (op_neDD C.u64) (pd_call C (ok_lifted_value T) T.d_lifted_value.g T.d_lifted_value.F.kp T.d_lifted_value.b n_lifted_value (pad_cons (pd_frz (pd_var 11)) (pad_cons (pd_frz (pd_var 9)) pad_nil))) (pd_call C (ok__law_value T) T.d__law_value.g T.d__law_value.F.kp T.d__law_value.b n__law_value (pad_cons (pd_frz (pd_var 11)) (pad_cons (pd_frz (pd_var 9)) pad_nil)))) (pbd_one (psd_ret pd_bl)) pbd_nil)
    (pbd_one (psd_if (ptd_cmp (op_neDD C.u64) (pd_call C (ok_lifted_end T) T.d_lifted_end.g T.d_lifted_end.F.kp T.d_lifted_end.b n_lifted_end (pad_cons (pd_frz (pd_var 11)) (pad_cons (pd_frz (pd_var 10)) pad_nil))) (pd_call C (ok__law_end T) T.d__law_end.g T.d__law_end.F.kp T.d__law_end.b n__law_end (pad_cons (pd_frz (pd_var 11)) (pad_cons (pd_frz (pd_var 10)) pad_nil)))) (pbd_one (psd_ret pd_bl)) pbd_nil))))))))
    (pbd_one (psd_ret pd_bl)))))))))
end
/-! ### the end -/
def spLaw (K : PySem.W.Frag) (mg : Str → Option Value) : Sp := fsp K mg 1 g_law
theorem all_mk {l : PySem.W.OpenLaw} {w : World} {K : PySem.W.Frag} {h : Heap} {mg : Str → Option Value} {fa : Addr} (X : K.In h) (G : h.Ns mainGlobals mg) (hfa : mg "law" = some (.ref fa))
    {f0 f1 f2 f3 f4 f5 f6 f7 f8 f9 f10 f11 f12 : Addr}
    {od0 an0 od1 an1 od2 an2 od3 an3 od4 an4 od5 an5 od6 an6 od7 an7 od8 an8 od9 an9 od10 an10 od11 an11 od12 an12 : Option Addr}
    {sl0 sl1 sl2 sl3 sl4 sl5 sl6 sl7 sl8 sl9 sl10 sl11 sl12 : Array (Option Value)}
    {oc0 kV0 dc0 pm0 cd0 ct0 oc1 kV1 dc1 pm1 cd1 ct1 oc2 kV2 dc2 pm2 cd2 ct2 oc3 kV3 dc3 pm3 cd3 ct3 oc4 kV4 dc4 pm4 cd4 ct4 oc5 kV5 dc5 pm5 cd5 ct5 oc6 kV6 dc6 pm6 cd6 ct6 oc7 kV7 dc7 pm7 cd7 ct7 oc8 kV8 dc8 pm8 cd8 ct8 oc9 kV9 dc9 pm9 cd9 ct9 oc10 kV10 dc10 pm10 cd10 ct10 oc11 kV11 dc11 pm11 cd11 ct11 oc12 kV12 dc12 pm12 cd12 ct12 : Value}
    (a0 : PySem.W.nsIn K mainGlobals "_law_draw" = some (some (.ref f0))) (l0 : K.lookup f0 = some ⟨oc0, od0, .func (PySem.W.fnOf "_law_draw" "_law_draw" (defArgs st__law_draw) (defBody st__law_draw) (defScope st__law_draw) .none kV0 dc0 pm0 an0 cd0 ct0), sl0⟩) (c0 : PySem.W.codeIn K cd0 "_law_draw" = true) (k0 : PySem.W.keepIn K (.ref f0) = true)
    (a1 : PySem.W.nsIn K mainGlobals "_law_any_name" = some (some (.ref f1))) (l1 : K.lookup f1 = some ⟨oc1, od1, .func (PySem.W.fnOf "_law_any_name" "_law_any_name" (defArgs st__law_any_name) (defBody st__law_any_name) (defScope st__law_any_name) .none kV1 dc1 pm1 an1 cd1 ct1), sl1⟩) (c1 : PySem.W.codeIn K cd1 "_law_any_name" = true) (k1 : PySem.W.keepIn K (.ref f1) = true)
    (a2 : PySem.W.nsIn K mainGlobals "_law_any_value" = some (some (.ref f2))) (l2 : K.lookup f2 = some ⟨oc2, od2, .func (PySem.W.fnOf "_law_any_value" "_law_any_value" (defArgs st__law_any_value) (defBody st__law_any_value) (defScope st__law_any_value) .none kV2 dc2 pm2 an2 cd2 ct2), sl2⟩) (c2 : PySem.W.codeIn K cd2 "_law_any_value" = true) (k2 : PySem.W.keepIn K (.ref f2) = true)
    (a3 : PySem.W.nsIn K mainGlobals "_law_any_end" = some (some (.ref f3))) (l3 : K.lookup f3 = some ⟨oc3, od3, .func (PySem.W.fnOf "_law_any_end" "_law_any_end" (defArgs st__law_any_end) (defBody st__law_any_end) (defScope st__law_any_end) .none kV3 dc3 pm3 an3 cd3 ct3), sl3⟩) (c3 : PySem.W.codeIn K cd3 "_law_any_end" = true) (k3 : PySem.W.keepIn K (.ref f3) = true)
    (a4 : PySem.W.nsIn K mainGlobals "_law_deal" = some (some (.ref f4))) (l4 : K.lookup f4 = some ⟨oc4, od4, .func (PySem.W.fnOf "_law_deal" "_law_deal" (defArgs st__law_deal) (defBody st__law_deal) (defScope st__law_deal) .none kV4 dc4 pm4 an4 cd4 ct4), sl4⟩) (c4 : PySem.W.codeIn K cd4 "_law_deal" = true) (k4 : PySem.W.keepIn K (.ref f4) = true)
    (a5 : PySem.W.nsIn K mainGlobals "_law_name" = some (some (.ref f5))) (l5 : K.lookup f5 = some ⟨oc5, od5, .func (PySem.W.fnOf "_law_name" "_law_name" (defArgs st__law_name) (defBody st__law_name) (defScope st__law_name) .none kV5 dc5 pm5 an5 cd5 ct5), sl5⟩) (c5 : PySem.W.codeIn K cd5 "_law_name" = true) (k5 : PySem.W.keepIn K (.ref f5) = true)
    (a6 : PySem.W.nsIn K mainGlobals "_law_value" = some (some (.ref f6))) (l6 : K.lookup f6 = some ⟨oc6, od6, .func (PySem.W.fnOf "_law_value" "_law_value" (defArgs st__law_value) (defBody st__law_value) (defScope st__law_value) .none kV6 dc6 pm6 an6 cd6 ct6), sl6⟩) (c6 : PySem.W.codeIn K cd6 "_law_value" = true) (k6 : PySem.W.keepIn K (.ref f6) = true)
    (a7 : PySem.W.nsIn K mainGlobals "_law_end" = some (some (.ref f7))) (l7 : K.lookup f7 = some ⟨oc7, od7, .func (PySem.W.fnOf "_law_end" "_law_end" (defArgs st__law_end) (defBody st__law_end) (defScope st__law_end) .none kV7 dc7 pm7 an7 cd7 ct7), sl7⟩) (c7 : PySem.W.codeIn K cd7 "_law_end" = true) (k7 : PySem.W.keepIn K (.ref f7) = true)
    (a8 : PySem.W.nsIn K mainGlobals "_law_words" = some (some (.ref f8))) (l8 : K.lookup f8 = some ⟨oc8, od8, .func (PySem.W.fnOf "_law_words" "_law_words" (defArgs st__law_words) (defBody st__law_words) (defScope st__law_words) .none kV8 dc8 pm8 an8 cd8 ct8), sl8⟩) (c8 : PySem.W.codeIn K cd8 "_law_words" = true) (k8 : PySem.W.keepIn K (.ref f8) = true)
    (a9 : PySem.W.nsIn K mainGlobals "lifted_name" = some (some (.ref f9))) (l9 : K.lookup f9 = some ⟨oc9, od9, .func (PySem.W.fnOf "lifted_name" "lifted_name" (defArgs st_lifted_name) (defBody st_lifted_name) (defScope st_lifted_name) .none kV9 dc9 pm9 an9 cd9 ct9), sl9⟩) (c9 : PySem.W.codeIn K cd9 "lifted_name" = true) (k9 : PySem.W.keepIn K (.ref f9) = true)
    (a10 : PySem.W.nsIn K mainGlobals "lifted_value" = some (some (.ref f10))) (l10 : K.lookup f10 = some ⟨oc10, od10, .func (PySem.W.fnOf "lifted_value" "lifted_value" (defArgs st_lifted_value) (defBody st_lifted_value) (defScope st_lifted_value) .none kV10 dc10 pm10 an10 cd10 ct10), sl10⟩) (c10 : PySem.W.codeIn K cd10 "lifted_value" = true) (k10 : PySem.W.keepIn K (.ref f10) = true)
    (a11 : PySem.W.nsIn K mainGlobals "lifted_end" = some (some (.ref f11))) (l11 : K.lookup f11 = some ⟨oc11, od11, .func (PySem.W.fnOf "lifted_end" "lifted_end" (defArgs st_lifted_end) (defBody st_lifted_end) (defScope st_lifted_end) .none kV11 dc11 pm11 an11 cd11 ct11), sl11⟩) (c11 : PySem.W.codeIn K cd11 "lifted_end" = true) (k11 : PySem.W.keepIn K (.ref f11) = true)
    (a12 : PySem.W.nsIn K mainGlobals "law" = some (some (.ref f12))) (l12 : K.lookup f12 = some ⟨oc12, od12, .func (PySem.W.fnOf "law" "law" (defArgs st_law) (defBody st_law) (defScope st_law) .none kV12 dc12 pm12 an12 cd12 ct12), sl12⟩) (c12 : PySem.W.codeIn K cd12 "law" = true) (k12 : PySem.W.keepIn K (.ref f12) = true)
    (z_dict : PySem.W.nsIn K mainGlobals "dict" = some none)
    (z_enumerate : PySem.W.nsIn K mainGlobals "enumerate" = some none)
    (z_int : PySem.W.nsIn K mainGlobals "int" = some none)
    (z_isinstance : PySem.W.nsIn K mainGlobals "isinstance" = some none)
    (z_len : PySem.W.nsIn K mainGlobals "len" = some none)
    (z_list : PySem.W.nsIn K mainGlobals "list" = some none)
    (z_max : PySem.W.nsIn K mainGlobals "max" = some none)
    (z_range : PySem.W.nsIn K mainGlobals "range" = some none)
    (z_reversed : PySem.W.nsIn K mainGlobals "reversed" = some none)
    (z_set : PySem.W.nsIn K mainGlobals "set" = some none)
    (z_sorted : PySem.W.nsIn K mainGlobals "sorted" = some none)
    (z_tuple : PySem.W.nsIn K mainGlobals "tuple" = some none) :
    ∃ fd : FuncData, (∀ (s : Shared) (v : Value), BindsTo s fd ⟨[v], []⟩ [("_law_script", v)]) ∧ ∀ base : Heap, K.In base → base.Ns mainGlobals mg → FnOk l.prog w K mg base (L2.CX l.prog w) 44 fa fd ["_law_script"] (lawSp K g_law) := by
  have e := hfa.symm.trans (PySem.W.mg_of X G a12)
  cases e
  let T : Tx K mg := {
    d__law_draw := ⟨_, _, fun_mk (st := st__law_draw) l0 c0 k0, (fun_mk (st := st__law_draw) l0 c0 k0).binds (ps := ["_law_deal_here", "_law_many"]) fun _ _ _ _ _ _ us hl => match us, hl with | [_, _], _ => rfl, PySem.W.mg_of X G a0⟩,
    d__law_any_name := ⟨_, _, fun_mk (st := st__law_any_name) l1 c1 k1, (fun_mk (st := st__law_any_name) l1 c1 k1).binds (ps := ["_law_deal_here", "_law_words_here", "_law_places"]) fun _ _ _ _ _ _ us hl => match us, hl with | [_, _, _], _ => rfl, PySem.W.mg_of X G a1⟩,
    d__law_any_value := ⟨_, _, fun_mk (st := st__law_any_value) l2 c2 k2, (fun_mk (st := st__law_any_value) l2 c2 k2).binds (ps := ["_law_deal_here", "_law_words_here", "_law_places", "_law_room"]) fun _ _ _ _ _ _ us hl => match us, hl with | [_, _, _, _], _ => rfl, PySem.W.mg_of X G a2⟩,
    d__law_any_end := ⟨_, _, fun_mk (st := st__law_any_end) l3 c3 k3, (fun_mk (st := st__law_any_end) l3 c3 k3).binds (ps := ["_law_deal_here", "_law_words_here", "_law_places"]) fun _ _ _ _ _ _ us hl => match us, hl with | [_, _, _], _ => rfl, PySem.W.mg_of X G a3⟩,
    d__law_deal := ⟨_, _, fun_mk (st := st__law_deal) l4 c4 k4, (fun_mk (st := st__law_deal) l4 c4 k4).binds (ps := ["_law_script", "_law_base"]) fun _ _ _ _ _ _ us hl => match us, hl with | [_, _], _ => rfl, PySem.W.mg_of X G a4⟩,
    d__law_name := ⟨_, _, fun_mk (st := st__law_name) l5 c5 k5, (fun_mk (st := st__law_name) l5 c5 k5).binds (ps := ["_law_names", "_law_name_here"]) fun _ _ _ _ _ _ us hl => match us, hl with | [_, _], _ => rfl, PySem.W.mg_of X G a5⟩,
    d__law_value := ⟨_, _, fun_mk (st := st__law_value) l6 c6 k6, (fun_mk (st := st__law_value) l6 c6 k6).binds (ps := ["_law_names", "_law_value_here"]) fun _ _ _ _ _ _ us hl => match us, hl with | [_, _], _ => rfl, PySem.W.mg_of X G a6⟩,
    d__law_end := ⟨_, _, fun_mk (st := st__law_end) l7 c7 k7, (fun_mk (st := st__law_end) l7 c7 k7).binds (ps := ["_law_names", "_law_end_here"]) fun _ _ _ _ _ _ us hl => match us, hl with | [_, _], _ => rfl, PySem.W.mg_of X G a7⟩,
    d__law_words := ⟨_, _, fun_mk (st := st__law_words) l8 c8 k8, (fun_mk (st := st__law_words) l8 c8 k8).binds (ps := ["_law_deal_here", "_law_many"]) fun _ _ _ _ _ _ us hl => match us, hl with | [_, _], _ => rfl, PySem.W.mg_of X G a8⟩,
    d_lifted_name := ⟨_, _, fun_mk (st := st_lifted_name) l9 c9 k9, (fun_mk (st := st_lifted_name) l9 c9 k9).binds (ps := ["names", "name"]) fun _ _ _ _ _ _ us hl => match us, hl with | [_, _], _ => rfl, PySem.W.mg_of X G a9⟩,
    d_lifted_value := ⟨_, _, fun_mk (st := st_lifted_value) l10 c10 k10, (fun_mk (st := st_lifted_value) l10 c10 k10).binds (ps := ["names", "value"]) fun _ _ _ _ _ _ us hl => match us, hl with | [_, _], _ => rfl, PySem.W.mg_of X G a10⟩,
    d_lifted_end := ⟨_, _, fun_mk (st := st_lifted_end) l11 c11 k11, (fun_mk (st := st_lifted_end) l11 c11 k11).binds (ps := ["names", "end"]) fun _ _ _ _ _ _ us hl => match us, hl with | [_, _], _ => rfl, PySem.W.mg_of X G a11⟩,
    d_law := ⟨_, _, fun_mk (st := st_law) l12 c12 k12, (fun_mk (st := st_law) l12 c12 k12).binds (ps := ["_law_script"]) fun _ _ _ _ _ _ us hl => match us, hl with | [_], _ => rfl, PySem.W.mg_of X G a12⟩,
    z_dict := PySem.W.mg_none_of X G z_dict,
    z_enumerate := PySem.W.mg_none_of X G z_enumerate,
    z_int := PySem.W.mg_none_of X G z_int,
    z_isinstance := PySem.W.mg_none_of X G z_isinstance,
    z_len := PySem.W.mg_none_of X G z_len,
    z_list := PySem.W.mg_none_of X G z_list,
    z_max := PySem.W.mg_none_of X G z_max,
    z_range := PySem.W.mg_none_of X G z_range,
    z_reversed := PySem.W.mg_none_of X G z_reversed,
    z_set := PySem.W.mg_none_of X G z_set,
    z_sorted := PySem.W.mg_none_of X G z_sorted,
    z_tuple := PySem.W.mg_none_of X G z_tuple }
  exact ⟨PySem.W.fnOf "law" "law" (defArgs st_law) (defBody st_law) (defScope st_law) .none kV12 dc12 pm12 an12 cd12 ct12, fun s v => .of_eq rfl, fun base _ _ => law_imp (ok_law (P := l.prog) (w := w) (base := base) T)⟩
end K31

namespace K31
open PySem L2 PF
/-! ### both read alike -/
theorem name_eq : g_lifted_name = g__law_name := rfl
theorem value_r : ∀ n, r_lifted_value n = r__law_value n
  | 0 => rfl
  | n + 1 => by
    show runG 2 3 (b_lifted_value (r_lifted_value n)) = runG 2 3 (b__law_value (r__law_value n))
    rw [value_r n]
    rfl
theorem value_eq : g_lifted_value = g__law_value := value_r 40
theorem end_eq : g_lifted_end = g__law_end := by
  show runG 2 3 b_lifted_end = runG 2 3 b__law_end
  unfold b_lifted_end b__law_end
  rw [value_eq]
  rfl
/-! ### values -/
def dkP (p : IP) : List DK := [.inl p.1, .inl p.2]
theorem keys_enc (p : IP) : keysD [.int p.1, .int p.2] = some (dkP p) := rfl
inductive Nm (pl : List IP) : D → Prop where
  | s (x : List Nat) : Nm pl (.str x)
  | p (q : IP) : q ∈ pl → Nm pl (encI q)
inductive Sh (pl : List IP) (P : D → Prop) : D → Prop where
  | num (n : Int) : Sh pl P (.int n)
  | thing (w : List Nat) (x : D) (ps : List D) : Nm pl x → (∀ p ∈ ps, P p) → ps.length ≤ 3 → Sh pl P (.tup [.str w, x, .tup ps])
def vOk (pl : List IP) : Nat → D → Prop
  | 0 => fun _ => False
  | n + 1 => Sh pl (vOk pl n)
theorem Sh.mono {pl : List IP} {P Q : D → Prop} (h : ∀ d, P d → Q d) : ∀ {t}, Sh pl P t → Sh pl Q t
  | _, .num n => .num n
  | _, .thing w x ps h1 h2 h3 => .thing w x ps h1 (fun p hp => h _ (h2 p hp)) h3
theorem vOk.mono {pl : List IP} : ∀ {n m : Nat} {t : D}, n ≤ m → vOk pl n t → vOk pl m t
  | 0, _, _, _, h => h.elim
  | n + 1, 0, _, hm, _ => absurd hm (Nat.not_succ_le_zero _)
  | n + 1, m + 1, t, hm, h => Sh.mono (fun d hd => vOk.mono (Nat.le_of_succ_le_succ hm) hd) h
/-- the names hold all places -/
def Has (pl : List IP) (N : D) : Prop := ∃ kvs, N = .dcT kvs ∧ ∀ q ∈ pl, ∃ s : List Nat, s.length ≤ 200 ∧ assocD (dkP q) kvs = some (.str s)
theorem has_ix {pl : List IP} {N : D} (h : Has pl N) {q : IP} (hq : q ∈ pl) : ∃ s : List Nat, s.length ≤ 200 ∧ idxD N (encI q) = some (.imm (.str s)) := by
  obtain ⟨kvs, rfl, h⟩ := h
  obtain ⟨s, hs, e⟩ := h q hq
  refine ⟨s, hs, ?_⟩
  show (assocD (dkP q) kvs).map Vl.imm = _
  rw [e]; rfl
theorem has_fz {pl : List IP} {N : D} (h : Has pl N) : fzb N = true := by
  obtain ⟨kvs, rfl, h⟩ := h
  rfl
theorem name_ok {pl : List IP} {N x : D} (h : Has pl N) (hx : Nm pl x) : ∃ s, g__law_name [.imm N, .imm x] = .ret (.imm (.str s)) [.imm N, .imm x] := by
  cases hx with
  | s x =>
    refine ⟨x, ?_⟩
    show runG 2 2 b__law_name _ = _
    unfold b__law_name
    have e : isiD "tuple" (.str x) = some (.imm (.bl false)) := rfl
    simp (decide := true) -implicitDefEqProofs only [x_var, x_vi, x_vo, x_vp, x_c, x_rdi, x_rdo, x_rdr, x_rki, x_rko, x_rkp, x_opt, x_bin, x_bin1, x_bin2, x_bin3, x_un, x_un1, x_un2, x_frz, x_fzi, x_fzo, x_fzr, x_fki, x_fko, x_fzl, x_fzd, x_fzt, x_args, x_args1, x_args2, x_im0, x_im1, x_nil, x_cons, x_cons1, x_cons2, x_cons3, x_call, x_call1, x_call2, x_call3, x_call4, x_ta0, x_ta1, x_ta2, x_tk1, x_tk2, x_tk3, x_rf0, x_rf1, x_rf2, x_nd0, x_nd1, x_nd2, x_wb0, x_wb1, x_po0, x_po1, x_po2, x_w0, x_w1, x_w2, x_w3, x_wk1, x_wk2, x_tV, x_tV1, x_tr, x_tr1, x_tr2, x_tr3, x_not, x_not1, x_and, x_and1, x_and2, x_or, x_or1, x_or2, x_andV, x_andV1, x_andV2, x_orV, x_orV1, x_orV2, x_notV, x_notV1, x_if, x_if1, x_if2, x_pno, x_pat, x_pat1, x_slc, x_slc1, x_slc2, x_slc3, x_m1, x_m11, x_m12, x_isS, x_iof, x_iof1, x_iof2, x_itl, x_itt, x_its, x_rng, x_rng1, x_rng2, x_lc, x_lc1, x_lc2, x_tg1, x_wi0, x_wi1, x_re0, x_re1, x_gk, x_ia0, x_ia1, x_ii1, x_ii2, x_seq, x_seq1, x_seq2, x_seq3, x_seq4, x_seq5, x_pass, x_brk, x_cont, x_retN, x_nxK, x_put, x_pk1, x_pk2, x_pk3, x_set, x_set1, x_set2, x_set3, x_asg, x_asg1, x_setN, x_setTp, x_sts0, x_sts1, x_sts2, x_ifS, x_ifS1, x_ifS2, x_ret, x_ret1, x_ret2, x_exp, x_exp1, x_exp2, x_ow, x_ow1, x_ow2, x_rs, x_rs1, x_rs2, x_app, x_app1, x_app2, x_app3, x_sput, x_sput1, x_sput2, x_sput3, x_sput4, x_sput5, x_for, x_for1, x_run, x_fin1, x_fin2, x_fin3, x_fin4, x_fin5, x_rvi, x_rvo, x_rvr, x_rk1, x_rk2, x_ba0, x_ba1, x_ba2, x_se, x_si, x_sm, x_tupD, x_lstD, x_plusS, x_plusL, x_lenS, x_lenL, x_lenT, x_sub, x_lt, x_gt, x_le, x_ge, x_neg, x_revs, x_neB, x_eqB, x_tB, x_pkn, x_iin, x_slcS, x_slcL, x_slcT, x_memT, x_memL, x_yes, x_tms, x_mod, x_fdiv, x_sm62, x_big, x_bigL, x_par, x_par1, x_par2, x_enm, x_enm1, x_enm2, x_newT, Out.bind_ok, Out.bind_exc, Out.bind_fail, List.getElem?_cons_zero, List.getElem?_cons_succ, List.set_cons_zero, List.set_cons_succ, plusI, eqI, Option.map_some, Option.map_none, List.length_cons, List.length_nil, Nat.zero_add, Nat.add_zero, List.map_cons, List.map_nil, reduceIte, if_true, if_false, Nat.reduceAdd, Nat.reduceSub, Nat.reduceLeDiff, List.replicate_succ, List.replicate_zero, List.cons_append, List.nil_append, Bool.false_eq_true, Bool.not_true, Bool.not_false, List.getElem?_nil, Bool.and_true, Bool.true_and, bne_iff_ne, ne_eq, Nat.succ_ne_zero, not_false_eq_true, not_true_eq_false, reduceCtorEq, Nat.add_one_sub_one, eq_self, Int.reduceLT, Int.reduceLE, Int.reduceNeg, Int.reduceAdd, Int.reduceSub, Int.reduceMul, Int.reduceEq, Int.reduceBEq, Int.reduceBNe, Int.reduceMod, Int.reduceDiv, Nat.reduceEqDiff, Int.reduceToNat, decide_true, decide_false, true_and, and_true, and_self, Bool.and_self, e]
  | p q hq =>
    obtain ⟨s, hs, e⟩ := has_ix h hq
    refine ⟨s, ?_⟩
    have e2 : isiD "tuple" (encI q) = some (.imm (.bl true)) := rfl
    show runG 2 2 b__law_name _ = _
    unfold b__law_name
    generalize encI q = x at *
    simp (decide := true) -implicitDefEqProofs only [x_var, x_vi, x_vo, x_vp, x_c, x_rdi, x_rdo, x_rdr, x_rki, x_rko, x_rkp, x_opt, x_bin, x_bin1, x_bin2, x_bin3, x_un, x_un1, x_un2, x_frz, x_fzi, x_fzo, x_fzr, x_fki, x_fko, x_fzl, x_fzd, x_fzt, x_args, x_args1, x_args2, x_im0, x_im1, x_nil, x_cons, x_cons1, x_cons2, x_cons3, x_call, x_call1, x_call2, x_call3, x_call4, x_ta0, x_ta1, x_ta2, x_tk1, x_tk2, x_tk3, x_rf0, x_rf1, x_rf2, x_nd0, x_nd1, x_nd2, x_wb0, x_wb1, x_po0, x_po1, x_po2, x_w0, x_w1, x_w2, x_w3, x_wk1, x_wk2, x_tV, x_tV1, x_tr, x_tr1, x_tr2, x_tr3, x_not, x_not1, x_and, x_and1, x_and2, x_or, x_or1, x_or2, x_andV, x_andV1, x_andV2, x_orV, x_orV1, x_orV2, x_notV, x_notV1, x_if, x_if1, x_if2, x_pno, x_pat, x_pat1, x_slc, x_slc1, x_slc2, x_slc3, x_m1, x_m11, x_m12, x_isS, x_iof, x_iof1, x_iof2, x_itl, x_itt, x_its, x_rng, x_rng1, x_rng2, x_lc, x_lc1, x_lc2, x_tg1, x_wi0, x_wi1, x_re0, x_re1, x_gk, x_ia0, x_ia1, x_ii1, x_ii2, x_seq, x_seq1, x_seq2, x_seq3, x_seq4, x_seq5, x_pass, x_brk, x_cont, x_retN, x_nxK, x_put, x_pk1, x_pk2, x_pk3, x_set, x_set1, x_set2, x_set3, x_asg, x_asg1, x_setN, x_setTp, x_sts0, x_sts1, x_sts2, x_ifS, x_ifS1, x_ifS2, x_ret, x_ret1, x_ret2, x_exp, x_exp1, x_exp2, x_ow, x_ow1, x_ow2, x_rs, x_rs1, x_rs2, x_app, x_app1, x_app2, x_app3, x_sput, x_sput1, x_sput2, x_sput3, x_sput4, x_sput5, x_for, x_for1, x_run, x_fin1, x_fin2, x_fin3, x_fin4, x_fin5, x_rvi, x_rvo, x_rvr, x_rk1, x_rk2, x_ba0, x_ba1, x_ba2, x_se, x_si, x_sm, x_tupD, x_lstD, x_plusS, x_plusL, x_lenS, x_lenL, x_lenT, x_sub, x_lt, x_gt, x_le, x_ge, x_neg, x_revs, x_neB, x_eqB, x_tB, x_pkn, x_iin, x_slcS, x_slcL, x_slcT, x_memT, x_memL, x_yes, x_tms, x_mod, x_fdiv, x_sm62, x_big, x_bigL, x_par, x_par1, x_par2, x_enm, x_enm1, x_enm2, x_newT, Out.bind_ok, Out.bind_exc, Out.bind_fail, List.getElem?_cons_zero, List.getElem?_cons_succ, List.set_cons_zero, List.set_cons_succ, plusI, eqI, Option.map_some, Option.map_none, List.length_cons, List.length_nil, Nat.zero_add, Nat.add_zero, List.map_cons, List.map_nil, reduceIte, if_true, if_false, Nat.reduceAdd, Nat.reduceSub, Nat.reduceLeDiff, List.replicate_succ, List.replicate_zero, List.cons_append, List.nil_append, Bool.false_eq_true, Bool.not_true, Bool.not_false, List.getElem?_nil, Bool.and_true, Bool.true_and, bne_iff_ne, ne_eq, Nat.succ_ne_zero, not_false_eq_true, not_true_eq_false, reduceCtorEq, Nat.add_one_sub_one, eq_self, Int.reduceLT, Int.reduceLE, Int.reduceNeg, Int.reduceAdd, Int.reduceSub, Int.reduceMul, Int.reduceEq, Int.reduceBEq, Int.reduceBNe, Int.reduceMod, Int.reduceDiv, Nat.reduceEqDiff, Int.reduceToNat, decide_true, decide_false, true_and, and_true, and_self, Bool.and_self, e, e2]
noncomputable def valF (m : Nat) (N v : D) : D := match r__law_value m [.imm N, .imm v] with
  | .ret (.imm u) _ => u
  | _ => .non
theorem okPs_of {n : Nat} : ∀ {l : List D}, (∀ d ∈ l, okP n d = true) → okPs n l = true
  | [], _ => by simp [okPs]
  | d :: l, h => by rw [okPs, h d List.mem_cons_self, okPs_of fun x hx => h x (List.mem_cons_of_mem _ hx)]; rfl
theorem okP_str (n : Nat) (s : List Nat) : okP n (.str s) = true := by cases n <;> simp [okP]
theorem okP_int (n : Nat) (s : Int) : okP n (.int s) = true := by cases n <;> simp [okP]
theorem idx0 (a : D) (l : List D) : idxD (.tup (a :: l)) (.int 0) = some (.imm a) := by
  show Option.map Vl.imm (L2.atI (a :: l) 0) = _
  rw [show L2.atI (a :: l) 0 = some a from atI_nat (j := 0) rfl]; rfl
theorem idx1 (a b : D) (l : List D) : idxD (.tup (a :: b :: l)) (.int 1) = some (.imm b) := by
  show Option.map Vl.imm (L2.atI (a :: b :: l) 1) = _
  rw [show L2.atI (a :: b :: l) 1 = some b from atI_nat (j := 1) rfl]; rfl
theorem idx2 (a b c : D) (l : List D) : idxD (.tup (a :: b :: c :: l)) (.int 2) = some (.imm c) := by
  show Option.map Vl.imm (L2.atI (a :: b :: c :: l) 2) = _
  rw [show L2.atI (a :: b :: c :: l) 2 = some c from atI_nat (j := 2) rfl]; rfl
theorem tupleL (z : List D) : tupleD (.lst z) = some (.imm (.tup z)) := rfl
theorem okP_tup3 {n : Nat} {a b : D} {ps : List D} (ha : okP (n + 1) a = true) (hb : okP (n + 1) b = true) (hp : ∀ p ∈ ps, okP n p = true) : okP (n + 2) (.tup [a, b, .tup ps]) = true := by
  have e1 : okP (n + 1) (.tup ps) = true := by
    rw [okP]
    exact okPs_of hp
  rw [okP]
  refine okPs_of fun d hd => ?_
  simp only [List.mem_cons, List.not_mem_nil, or_false] at hd
  rcases hd with rfl | rfl | rfl
  · exact ha
  · exact hb
  · exact e1
theorem value_ok {pl : List IP} {N : D} (hN : Has pl N) : ∀ (n : Nat) (v : D), vOk pl n v → ∀ m, n ≤ m → r__law_value m [.imm N, .imm v] = .ret (.imm (valF m N v)) [.imm N, .imm v] ∧ ∀ k, 2 * n ≤ k → okP k (valF m N v) = true
  | 0, _, h, _, _ => h.elim
  | n + 1, v, h, 0, hm => absurd hm (Nat.not_succ_le_zero _)
  | n + 1, v, h, m + 1, hm => by
    have key : ∃ u, r__law_value (m + 1) [.imm N, .imm v] = .ret (.imm u) [.imm N, .imm v] ∧ ∀ k, 2 * (n + 1) ≤ k → okP k u = true := by
      cases (show Sh pl (vOk pl n) v from h) with
      | num k =>
        refine ⟨.int k, ?_, fun _ _ => okP_int _ _⟩
        show runG 2 3 (b__law_value (r__law_value m)) _ = _
        unfold b__law_value
        have e : isiD "int" (.int k) = some (.imm (.bl true)) := rfl
        simp (decide := true) -implicitDefEqProofs only [x_var, x_vi, x_vo, x_vp, x_c, x_rdi, x_rdo, x_rdr, x_rki, x_rko, x_rkp, x_opt, x_bin, x_bin1, x_bin2, x_bin3, x_un, x_un1, x_un2, x_frz, x_fzi, x_fzo, x_fzr, x_fki, x_fko, x_fzl, x_fzd, x_fzt, x_args, x_args1, x_args2, x_im0, x_im1, x_nil, x_cons, x_cons1, x_cons2, x_cons3, x_call, x_call1, x_call2, x_call3, x_call4, x_ta0, x_ta1, x_ta2, x_tk1, x_tk2, x_tk3, x_rf0, x_rf1, x_rf2, x_nd0, x_nd1, x_nd2, x_wb0, x_wb1, x_po0, x_po1, x_po2, x_w0, x_w1, x_w2, x_w3, x_wk1, x_wk2, x_tV, x_tV1, x_tr, x_tr1, x_tr2, x_tr3, x_not, x_not1, x_and, x_and1, x_and2, x_or, x_or1, x_or2, x_andV, x_andV1, x_andV2, x_orV, x_orV1, x_orV2, x_notV, x_notV1, x_if, x_if1, x_if2, x_pno, x_pat, x_pat1, x_slc, x_slc1, x_slc2, x_slc3, x_m1, x_m11, x_m12, x_isS, x_iof, x_iof1, x_iof2, x_itl, x_itt, x_its, x_rng, x_rng1, x_rng2, x_lc, x_lc1, x_lc2, x_tg1, x_wi0, x_wi1, x_re0, x_re1, x_gk, x_ia0, x_ia1, x_ii1, x_ii2, x_seq, x_seq1, x_seq2, x_seq3, x_seq4, x_seq5, x_pass, x_brk, x_cont, x_retN, x_nxK, x_put, x_pk1, x_pk2, x_pk3, x_set, x_set1, x_set2, x_set3, x_asg, x_asg1, x_setN, x_setTp, x_sts0, x_sts1, x_sts2, x_ifS, x_ifS1, x_ifS2, x_ret, x_ret1, x_ret2, x_exp, x_exp1, x_exp2, x_ow, x_ow1, x_ow2, x_rs, x_rs1, x_rs2, x_app, x_app1, x_app2, x_app3, x_sput, x_sput1, x_sput2, x_sput3, x_sput4, x_sput5, x_for, x_for1, x_run, x_fin1, x_fin2, x_fin3, x_fin4, x_fin5, x_rvi, x_rvo, x_rvr, x_rk1, x_rk2, x_ba0, x_ba1, x_ba2, x_se, x_si, x_sm, x_tupD, x_lstD, x_plusS, x_plusL, x_lenS, x_lenL, x_lenT, x_sub, x_lt, x_gt, x_le, x_ge, x_neg, x_revs, x_neB, x_eqB, x_tB, x_pkn, x_iin, x_slcS, x_slcL, x_slcT, x_memT, x_memL, x_yes, x_tms, x_mod, x_fdiv, x_sm62, x_big, x_bigL, x_par, x_par1, x_par2, x_enm, x_enm1, x_enm2, x_newT, Out.bind_ok, Out.bind_exc, Out.bind_fail, List.getElem?_cons_zero, List.getElem?_cons_succ, List.set_cons_zero, List.set_cons_succ, plusI, eqI, Option.map_some, Option.map_none, List.length_cons, List.length_nil, Nat.zero_add, Nat.add_zero, List.map_cons, List.map_nil, reduceIte, if_true, if_false, Nat.reduceAdd, Nat.reduceSub, Nat.reduceLeDiff, List.replicate_succ, List.replicate_zero, List.cons_append, List.nil_append, Bool.false_eq_true, Bool.not_true, Bool.not_false, List.getElem?_nil, Bool.and_true, Bool.true_and, bne_iff_ne, ne_eq, Nat.succ_ne_zero, not_false_eq_true, not_true_eq_false, reduceCtorEq, Nat.add_one_sub_one, eq_self, Int.reduceLT, Int.reduceLE, Int.reduceNeg, Int.reduceAdd, Int.reduceSub, Int.reduceMul, Int.reduceEq, Int.reduceBEq, Int.reduceBNe, Int.reduceMod, Int.reduceDiv, Nat.reduceEqDiff, Int.reduceToNat, decide_true, decide_false, true_and, and_true, and_self, Bool.and_self, e]
      | thing w x ps h1 h2 h3 =>
        obtain ⟨s, es⟩ := name_ok hN h1
        have ih : ∀ p ∈ ps, r__law_value m [.imm N, .imm p] = .ret (.imm (valF m N p)) [.imm N, .imm p] ∧ ∀ k, 2 * n ≤ k → okP k (valF m N p) = true := fun p hp => value_ok hN n p (h2 p hp) m (Nat.le_of_succ_le_succ hm)
        have e : isiD "int" (.tup [.str w, x, .tup ps]) = some (.imm (.bl false)) := rfl
        have fz := has_fz hN
        have el := lcL_map (i := 2) (e := eFrz (eCall (r__law_value m) (aCons (eFrz (eVar 0)) (aCons (eFrz (eVar 2)) aNil)))) (ρ := [.imm N, .imm (.tup [.str w, x, .tup ps]), .non]) (valF m N) (by simp) rfl ps [] (fun d hd => by
          have q := (ih d hd).1
          simp -implicitDefEqProofs only [x_var, x_vi, x_vo, x_vp, x_c, x_rdi, x_rdo, x_rdr, x_rki, x_rko, x_rkp, x_opt, x_bin, x_bin1, x_bin2, x_bin3, x_un, x_un1, x_un2, x_frz, x_fzi, x_fzo, x_fzr, x_fki, x_fko, x_fzl, x_fzd, x_fzt, x_args, x_args1, x_args2, x_im0, x_im1, x_nil, x_cons, x_cons1, x_cons2, x_cons3, x_call, x_call1, x_call2, x_call3, x_call4, x_ta0, x_ta1, x_ta2, x_tk1, x_tk2, x_tk3, x_rf0, x_rf1, x_rf2, x_nd0, x_nd1, x_nd2, x_wb0, x_wb1, x_po0, x_po1, x_po2, x_w0, x_w1, x_w2, x_w3, x_wk1, x_wk2, x_tV, x_tV1, x_tr, x_tr1, x_tr2, x_tr3, x_not, x_not1, x_and, x_and1, x_and2, x_or, x_or1, x_or2, x_andV, x_andV1, x_andV2, x_orV, x_orV1, x_orV2, x_notV, x_notV1, x_if, x_if1, x_if2, x_pno, x_pat, x_pat1, x_slc, x_slc1, x_slc2, x_slc3, x_m1, x_m11, x_m12, x_isS, x_iof, x_iof1, x_iof2, x_itl, x_itt, x_its, x_rng, x_rng1, x_rng2, x_lc, x_lc1, x_lc2, x_tg1, x_wi0, x_wi1, x_re0, x_re1, x_gk, x_ia0, x_ia1, x_ii1, x_ii2, x_seq, x_seq1, x_seq2, x_seq3, x_seq4, x_seq5, x_pass, x_brk, x_cont, x_retN, x_nxK, x_put, x_pk1, x_pk2, x_pk3, x_set, x_set1, x_set2, x_set3, x_asg, x_asg1, x_setN, x_setTp, x_sts0, x_sts1, x_sts2, x_ifS, x_ifS1, x_ifS2, x_ret, x_ret1, x_ret2, x_exp, x_exp1, x_exp2, x_ow, x_ow1, x_ow2, x_rs, x_rs1, x_rs2, x_app, x_app1, x_app2, x_app3, x_sput, x_sput1, x_sput2, x_sput3, x_sput4, x_sput5, x_for, x_for1, x_run, x_fin1, x_fin2, x_fin3, x_fin4, x_fin5, x_rvi, x_rvo, x_rvr, x_rk1, x_rk2, x_ba0, x_ba1, x_ba2, x_se, x_si, x_sm, x_tupD, x_lstD, x_plusS, x_plusL, x_lenS, x_lenL, x_lenT, x_sub, x_lt, x_gt, x_le, x_ge, x_neg, x_revs, x_neB, x_eqB, x_tB, x_pkn, x_iin, x_slcS, x_slcL, x_slcT, x_memT, x_memL, x_yes, x_tms, x_mod, x_fdiv, x_sm62, x_big, x_bigL, x_par, x_par1, x_par2, x_enm, x_enm1, x_enm2, x_newT, Out.bind_ok, Out.bind_exc, Out.bind_fail, List.getElem?_cons_zero, List.getElem?_cons_succ, List.set_cons_zero, List.set_cons_succ, plusI, eqI, Option.map_some, Option.map_none, List.length_cons, List.length_nil, Nat.zero_add, Nat.add_zero, List.map_cons, List.map_nil, reduceIte, if_true, if_false, Nat.reduceAdd, Nat.reduceSub, Nat.reduceLeDiff, List.replicate_succ, List.replicate_zero, List.cons_append, List.nil_append, Bool.false_eq_true, Bool.not_true, Bool.not_false, List.getElem?_nil, Bool.and_true, Bool.true_and, bne_iff_ne, ne_eq, Nat.succ_ne_zero, not_false_eq_true, not_true_eq_false, reduceCtorEq, Nat.add_one_sub_one, eq_self, Int.reduceLT, Int.reduceLE, Int.reduceNeg, Int.reduceAdd, Int.reduceSub, Int.reduceMul, Int.reduceEq, Int.reduceBEq, Int.reduceBNe, Int.reduceMod, Int.reduceDiv, Nat.reduceEqDiff, Int.reduceToNat, decide_true, decide_false, true_and, and_true, and_self, Bool.and_self, q]) (by rw [List.length_nil]; exact Nat.le_trans (by omega : 0 + ps.length ≤ 3) (by decide))
        rw [List.nil_append] at el
        refine ⟨.tup [.str w, .str s, .tup (ps.map (valF m N))], ?_, fun k hk => ?_⟩
        · show runG 2 3 (b__law_value (r__law_value m)) _ = _
          unfold b__law_value
          simp (decide := true) -implicitDefEqProofs only [x_var, x_vi, x_vo, x_vp, x_c, x_rdi, x_rdo, x_rdr, x_rki, x_rko, x_rkp, x_opt, x_bin, x_bin1, x_bin2, x_bin3, x_un, x_un1, x_un2, x_frz, x_fzi, x_fzo, x_fzr, x_fki, x_fko, x_fzl, x_fzd, x_fzt, x_args, x_args1, x_args2, x_im0, x_im1, x_nil, x_cons, x_cons1, x_cons2, x_cons3, x_call, x_call1, x_call2, x_call3, x_call4, x_ta0, x_ta1, x_ta2, x_tk1, x_tk2, x_tk3, x_rf0, x_rf1, x_rf2, x_nd0, x_nd1, x_nd2, x_wb0, x_wb1, x_po0, x_po1, x_po2, x_w0, x_w1, x_w2, x_w3, x_wk1, x_wk2, x_tV, x_tV1, x_tr, x_tr1, x_tr2, x_tr3, x_not, x_not1, x_and, x_and1, x_and2, x_or, x_or1, x_or2, x_andV, x_andV1, x_andV2, x_orV, x_orV1, x_orV2, x_notV, x_notV1, x_if, x_if1, x_if2, x_pno, x_pat, x_pat1, x_slc, x_slc1, x_slc2, x_slc3, x_m1, x_m11, x_m12, x_isS, x_iof, x_iof1, x_iof2, x_itl, x_itt, x_its, x_rng, x_rng1, x_rng2, x_lc, x_lc1, x_lc2, x_tg1, x_wi0, x_wi1, x_re0, x_re1, x_gk, x_ia0, x_ia1, x_ii1, x_ii2, x_seq, x_seq1, x_seq2, x_seq3, x_seq4, x_seq5, x_pass, x_brk, x_cont, x_retN, x_nxK, x_put, x_pk1, x_pk2, x_pk3, x_set, x_set1, x_set2, x_set3, x_asg, x_asg1, x_setN, x_setTp, x_sts0, x_sts1, x_sts2, x_ifS, x_ifS1, x_ifS2, x_ret, x_ret1, x_ret2, x_exp, x_exp1, x_exp2, x_ow, x_ow1, x_ow2, x_rs, x_rs1, x_rs2, x_app, x_app1, x_app2, x_app3, x_sput, x_sput1, x_sput2, x_sput3, x_sput4, x_sput5, x_for, x_for1, x_run, x_fin1, x_fin2, x_fin3, x_fin4, x_fin5, x_rvi, x_rvo, x_rvr, x_rk1, x_rk2, x_ba0, x_ba1, x_ba2, x_se, x_si, x_sm, x_tupD, x_lstD, x_plusS, x_plusL, x_lenS, x_lenL, x_lenT, x_sub, x_lt, x_gt, x_le, x_ge, x_neg, x_revs, x_neB, x_eqB, x_tB, x_pkn, x_iin, x_slcS, x_slcL, x_slcT, x_memT, x_memL, x_yes, x_tms, x_mod, x_fdiv, x_sm62, x_big, x_bigL, x_par, x_par1, x_par2, x_enm, x_enm1, x_enm2, x_newT, Out.bind_ok, Out.bind_exc, Out.bind_fail, List.getElem?_cons_zero, List.getElem?_cons_succ, List.set_cons_zero, List.set_cons_succ, plusI, eqI, Option.map_some, Option.map_none, List.length_cons, List.length_nil, Nat.zero_add, Nat.add_zero, List.map_cons, List.map_nil, reduceIte, if_true, if_false, Nat.reduceAdd, Nat.reduceSub, Nat.reduceLeDiff, List.replicate_succ, List.replicate_zero, List.cons_append, List.nil_append, Bool.false_eq_true, Bool.not_true, Bool.not_false, List.getElem?_nil, Bool.and_true, Bool.true_and, bne_iff_ne, ne_eq, Nat.succ_ne_zero, not_false_eq_true, not_true_eq_false, reduceCtorEq, Nat.add_one_sub_one, eq_self, Int.reduceLT, Int.reduceLE, Int.reduceNeg, Int.reduceAdd, Int.reduceSub, Int.reduceMul, Int.reduceEq, Int.reduceBEq, Int.reduceBNe, Int.reduceMod, Int.reduceDiv, Nat.reduceEqDiff, Int.reduceToNat, decide_true, decide_false, true_and, and_true, and_self, Bool.and_self, e, idx0, idx1, idx2, es, el, tupleL]
        · obtain ⟨k', rfl⟩ : ∃ k', k = k' + 2 := ⟨k - 2, by omega⟩
          refine okP_tup3 (okP_str _ _) (okP_str _ _) fun p hp => ?_
          obtain ⟨y, hy, rfl⟩ := List.mem_map.mp hp
          exact (ih y hy).2 k' (by omega)
    obtain ⟨u, e, o⟩ := key
    have ev : valF (m + 1) N v = u := by unfold valF; rw [e]
    rw [ev]
    exact ⟨e, o⟩
/-! ### ends -/
inductive En (pl : List IP) : D → Prop where
  | no : En pl .non
  | late : En pl (.tup [.str [108, 97, 116, 101]])
  | great (x : D) : Nm pl x → En pl (.tup [.str [103, 114, 101, 97, 116], x])
  | fault (x y : D) : Nm pl x → Nm pl y → En pl (.tup [.str [102, 97, 117, 108, 116], x, y])
  | answer (v : D) : vOk pl 31 v → En pl (.tup [.str [97, 110, 115, 119, 101, 114], v])
theorem eqSf {x y : List Nat} (h : (x == y) = false) : eqD (.str x) (.str y) = some (.imm (.bl false)) := by
  show some (Vl.imm (.bl (x == y))) = _
  rw [h]
theorem eqSt {x y : List Nat} (h : (x == y) = true) : eqD (.str x) (.str y) = some (.imm (.bl true)) := by
  show some (Vl.imm (.bl (x == y))) = _
  rw [h]
theorem plusT (z w : List D) (h : z.length + w.length ≤ big) : plusD (.tup z) (.tup w) = some (.imm (.tup (z ++ w))) := if_pos h
theorem isn_t (l : List D) : isND false (.tup l) .non = some (.imm (.bl false)) := rfl
theorem isn_n : isND false .non .non = some (.imm (.bl true)) := rfl
theorem okP_tup {n : Nat} {l : List D} (h : ∀ d ∈ l, okP n d = true) : okP (n + 1) (.tup l) = true := by
  rw [okP]
  exact okPs_of h
theorem end_ok {pl : List IP} {N e : D} (hN : Has pl N) (he : En pl e) : ∃ u, g__law_end [.imm N, .imm e] = .ret (.imm u) [.imm N, .imm e] ∧ okP 180 u = true := by
  have fz := has_fz hN
  show ∃ u, runG 2 3 b__law_end _ = _ ∧ _
  unfold b__law_end
  cases he with
  | no => exact ⟨.non, by simp (decide := true) -implicitDefEqProofs only [x_var, x_vi, x_vo, x_vp, x_c, x_rdi, x_rdo, x_rdr, x_rki, x_rko, x_rkp, x_opt, x_bin, x_bin1, x_bin2, x_bin3, x_un, x_un1, x_un2, x_frz, x_fzi, x_fzo, x_fzr, x_fki, x_fko, x_fzl, x_fzd, x_fzt, x_args, x_args1, x_args2, x_im0, x_im1, x_nil, x_cons, x_cons1, x_cons2, x_cons3, x_call, x_call1, x_call2, x_call3, x_call4, x_ta0, x_ta1, x_ta2, x_tk1, x_tk2, x_tk3, x_rf0, x_rf1, x_rf2, x_nd0, x_nd1, x_nd2, x_wb0, x_wb1, x_po0, x_po1, x_po2, x_w0, x_w1, x_w2, x_w3, x_wk1, x_wk2, x_tV, x_tV1, x_tr, x_tr1, x_tr2, x_tr3, x_not, x_not1, x_and, x_and1, x_and2, x_or, x_or1, x_or2, x_andV, x_andV1, x_andV2, x_orV, x_orV1, x_orV2, x_notV, x_notV1, x_if, x_if1, x_if2, x_pno, x_pat, x_pat1, x_slc, x_slc1, x_slc2, x_slc3, x_m1, x_m11, x_m12, x_isS, x_iof, x_iof1, x_iof2, x_itl, x_itt, x_its, x_rng, x_rng1, x_rng2, x_lc, x_lc1, x_lc2, x_tg1, x_wi0, x_wi1, x_re0, x_re1, x_gk, x_ia0, x_ia1, x_ii1, x_ii2, x_seq, x_seq1, x_seq2, x_seq3, x_seq4, x_seq5, x_pass, x_brk, x_cont, x_retN, x_nxK, x_put, x_pk1, x_pk2, x_pk3, x_set, x_set1, x_set2, x_set3, x_asg, x_asg1, x_setN, x_setTp, x_sts0, x_sts1, x_sts2, x_ifS, x_ifS1, x_ifS2, x_ret, x_ret1, x_ret2, x_exp, x_exp1, x_exp2, x_ow, x_ow1, x_ow2, x_rs, x_rs1, x_rs2, x_app, x_app1, x_app2, x_app3, x_sput, x_sput1, x_sput2, x_sput3, x_sput4, x_sput5, x_for, x_for1, x_run, x_fin1, x_fin2, x_fin3, x_fin4, x_fin5, x_rvi, x_rvo, x_rvr, x_rk1, x_rk2, x_ba0, x_ba1, x_ba2, x_se, x_si, x_sm, x_tupD, x_lstD, x_plusS, x_plusL, x_lenS, x_lenL, x_lenT, x_sub, x_lt, x_gt, x_le, x_ge, x_neg, x_revs, x_neB, x_eqB, x_tB, x_pkn, x_iin, x_slcS, x_slcL, x_slcT, x_memT, x_memL, x_yes, x_tms, x_mod, x_fdiv, x_sm62, x_big, x_bigL, x_par, x_par1, x_par2, x_enm, x_enm1, x_enm2, x_newT, Out.bind_ok, Out.bind_exc, Out.bind_fail, List.getElem?_cons_zero, List.getElem?_cons_succ, List.set_cons_zero, List.set_cons_succ, plusI, eqI, Option.map_some, Option.map_none, List.length_cons, List.length_nil, Nat.zero_add, Nat.add_zero, List.map_cons, List.map_nil, reduceIte, if_true, if_false, Nat.reduceAdd, Nat.reduceSub, Nat.reduceLeDiff, List.replicate_succ, List.replicate_zero, List.cons_append, List.nil_append, Bool.false_eq_true, Bool.not_true, Bool.not_false, List.getElem?_nil, Bool.and_true, Bool.true_and, bne_iff_ne, ne_eq, Nat.succ_ne_zero, not_false_eq_true, not_true_eq_false, reduceCtorEq, Nat.add_one_sub_one, eq_self, Int.reduceLT, Int.reduceLE, Int.reduceNeg, Int.reduceAdd, Int.reduceSub, Int.reduceMul, Int.reduceEq, Int.reduceBEq, Int.reduceBNe, Int.reduceMod, Int.reduceDiv, Nat.reduceEqDiff, Int.reduceToNat, decide_true, decide_false, true_and, and_true, and_self, Bool.and_self, isn_n], rfl⟩
  | late => exact ⟨.tup [.str [108, 97, 116, 101]], by simp (decide := true) -implicitDefEqProofs only [x_var, x_vi, x_vo, x_vp, x_c, x_rdi, x_rdo, x_rdr, x_rki, x_rko, x_rkp, x_opt, x_bin, x_bin1, x_bin2, x_bin3, x_un, x_un1, x_un2, x_frz, x_fzi, x_fzo, x_fzr, x_fki, x_fko, x_fzl, x_fzd, x_fzt, x_args, x_args1, x_args2, x_im0, x_im1, x_nil, x_cons, x_cons1, x_cons2, x_cons3, x_call, x_call1, x_call2, x_call3, x_call4, x_ta0, x_ta1, x_ta2, x_tk1, x_tk2, x_tk3, x_rf0, x_rf1, x_rf2, x_nd0, x_nd1, x_nd2, x_wb0, x_wb1, x_po0, x_po1, x_po2, x_w0, x_w1, x_w2, x_w3, x_wk1, x_wk2, x_tV, x_tV1, x_tr, x_tr1, x_tr2, x_tr3, x_not, x_not1, x_and, x_and1, x_and2, x_or, x_or1, x_or2, x_andV, x_andV1, x_andV2, x_orV, x_orV1, x_orV2, x_notV, x_notV1, x_if, x_if1, x_if2, x_pno, x_pat, x_pat1, x_slc, x_slc1, x_slc2, x_slc3, x_m1, x_m11, x_m12, x_isS, x_iof, x_iof1, x_iof2, x_itl, x_itt, x_its, x_rng, x_rng1, x_rng2, x_lc, x_lc1, x_lc2, x_tg1, x_wi0, x_wi1, x_re0, x_re1, x_gk, x_ia0, x_ia1, x_ii1, x_ii2, x_seq, x_seq1, x_seq2, x_seq3, x_seq4, x_seq5, x_pass, x_brk, x_cont, x_retN, x_nxK, x_put, x_pk1, x_pk2, x_pk3, x_set, x_set1, x_set2, x_set3, x_asg, x_asg1, x_setN, x_setTp, x_sts0, x_sts1, x_sts2, x_ifS, x_ifS1, x_ifS2, x_ret, x_ret1, x_ret2, x_exp, x_exp1, x_exp2, x_ow, x_ow1, x_ow2, x_rs, x_rs1, x_rs2, x_app, x_app1, x_app2, x_app3, x_sput, x_sput1, x_sput2, x_sput3, x_sput4, x_sput5, x_for, x_for1, x_run, x_fin1, x_fin2, x_fin3, x_fin4, x_fin5, x_rvi, x_rvo, x_rvr, x_rk1, x_rk2, x_ba0, x_ba1, x_ba2, x_se, x_si, x_sm, x_tupD, x_lstD, x_plusS, x_plusL, x_lenS, x_lenL, x_lenT, x_sub, x_lt, x_gt, x_le, x_ge, x_neg, x_revs, x_neB, x_eqB, x_tB, x_pkn, x_iin, x_slcS, x_slcL, x_slcT, x_memT, x_memL, x_yes, x_tms, x_mod, x_fdiv, x_sm62, x_big, x_bigL, x_par, x_par1, x_par2, x_enm, x_enm1, x_enm2, x_newT, Out.bind_ok, Out.bind_exc, Out.bind_fail, List.getElem?_cons_zero, List.getElem?_cons_succ, List.set_cons_zero, List.set_cons_succ, plusI, eqI, Option.map_some, Option.map_none, List.length_cons, List.length_nil, Nat.zero_add, Nat.add_zero, List.map_cons, List.map_nil, reduceIte, if_true, if_false, Nat.reduceAdd, Nat.reduceSub, Nat.reduceLeDiff, List.replicate_succ, List.replicate_zero, List.cons_append, List.nil_append, Bool.false_eq_true, Bool.not_true, Bool.not_false, List.getElem?_nil, Bool.and_true, Bool.true_and, bne_iff_ne, ne_eq, Nat.succ_ne_zero, not_false_eq_true, not_true_eq_false, reduceCtorEq, Nat.add_one_sub_one, eq_self, Int.reduceLT, Int.reduceLE, Int.reduceNeg, Int.reduceAdd, Int.reduceSub, Int.reduceMul, Int.reduceEq, Int.reduceBEq, Int.reduceBNe, Int.reduceMod, Int.reduceDiv, Nat.reduceEqDiff, Int.reduceToNat, decide_true, decide_false, true_and, and_true, and_self, Bool.and_self, isn_t, idx0, eqSt, eqSf], okP_tup (n := 179) (by simp [okP_str])⟩
  | great x h1 =>
    obtain ⟨s, es⟩ := name_ok hN h1
    have ec : cutD [D.str [103, 114, 101, 97, 116], x] (some 1) none = [x] := rfl
    have el : lcL (.nm 2) stYes (eFrz (eCall g__law_name (aCons (eFrz (eVar 0)) (aCons (eFrz (eVar 2)) aNil)))) [x] [] [.imm N, .imm (.tup [.str [103, 114, 101, 97, 116], x]), .non] = .ok [.str s] [.imm N, .imm (.tup [.str [103, 114, 101, 97, 116], x]), .non] := by
      simp (decide := true) -implicitDefEqProofs only [lcL, x_var, x_vi, x_vo, x_vp, x_c, x_rdi, x_rdo, x_rdr, x_rki, x_rko, x_rkp, x_opt, x_bin, x_bin1, x_bin2, x_bin3, x_un, x_un1, x_un2, x_frz, x_fzi, x_fzo, x_fzr, x_fki, x_fko, x_fzl, x_fzd, x_fzt, x_args, x_args1, x_args2, x_im0, x_im1, x_nil, x_cons, x_cons1, x_cons2, x_cons3, x_call, x_call1, x_call2, x_call3, x_call4, x_ta0, x_ta1, x_ta2, x_tk1, x_tk2, x_tk3, x_rf0, x_rf1, x_rf2, x_nd0, x_nd1, x_nd2, x_wb0, x_wb1, x_po0, x_po1, x_po2, x_w0, x_w1, x_w2, x_w3, x_wk1, x_wk2, x_tV, x_tV1, x_tr, x_tr1, x_tr2, x_tr3, x_not, x_not1, x_and, x_and1, x_and2, x_or, x_or1, x_or2, x_andV, x_andV1, x_andV2, x_orV, x_orV1, x_orV2, x_notV, x_notV1, x_if, x_if1, x_if2, x_pno, x_pat, x_pat1, x_slc, x_slc1, x_slc2, x_slc3, x_m1, x_m11, x_m12, x_isS, x_iof, x_iof1, x_iof2, x_itl, x_itt, x_its, x_rng, x_rng1, x_rng2, x_lc, x_lc1, x_lc2, x_tg1, x_wi0, x_wi1, x_re0, x_re1, x_gk, x_ia0, x_ia1, x_ii1, x_ii2, x_seq, x_seq1, x_seq2, x_seq3, x_seq4, x_seq5, x_pass, x_brk, x_cont, x_retN, x_nxK, x_put, x_pk1, x_pk2, x_pk3, x_set, x_set1, x_set2, x_set3, x_asg, x_asg1, x_setN, x_setTp, x_sts0, x_sts1, x_sts2, x_ifS, x_ifS1, x_ifS2, x_ret, x_ret1, x_ret2, x_exp, x_exp1, x_exp2, x_ow, x_ow1, x_ow2, x_rs, x_rs1, x_rs2, x_app, x_app1, x_app2, x_app3, x_sput, x_sput1, x_sput2, x_sput3, x_sput4, x_sput5, x_for, x_for1, x_run, x_fin1, x_fin2, x_fin3, x_fin4, x_fin5, x_rvi, x_rvo, x_rvr, x_rk1, x_rk2, x_ba0, x_ba1, x_ba2, x_se, x_si, x_sm, x_tupD, x_lstD, x_plusS, x_plusL, x_lenS, x_lenL, x_lenT, x_sub, x_lt, x_gt, x_le, x_ge, x_neg, x_revs, x_neB, x_eqB, x_tB, x_pkn, x_iin, x_slcS, x_slcL, x_slcT, x_memT, x_memL, x_yes, x_tms, x_mod, x_fdiv, x_sm62, x_big, x_bigL, x_par, x_par1, x_par2, x_enm, x_enm1, x_enm2, x_newT, Out.bind_ok, Out.bind_exc, Out.bind_fail, List.getElem?_cons_zero, List.getElem?_cons_succ, List.set_cons_zero, List.set_cons_succ, plusI, eqI, Option.map_some, Option.map_none, List.length_cons, List.length_nil, Nat.zero_add, Nat.add_zero, List.map_cons, List.map_nil, reduceIte, if_true, if_false, Nat.reduceAdd, Nat.reduceSub, Nat.reduceLeDiff, List.replicate_succ, List.replicate_zero, List.cons_append, List.nil_append, Bool.false_eq_true, Bool.not_true, Bool.not_false, List.getElem?_nil, Bool.and_true, Bool.true_and, bne_iff_ne, ne_eq, Nat.succ_ne_zero, not_false_eq_true, not_true_eq_false, reduceCtorEq, Nat.add_one_sub_one, eq_self, Int.reduceLT, Int.reduceLE, Int.reduceNeg, Int.reduceAdd, Int.reduceSub, Int.reduceMul, Int.reduceEq, Int.reduceBEq, Int.reduceBNe, Int.reduceMod, Int.reduceDiv, Nat.reduceEqDiff, Int.reduceToNat, decide_true, decide_false, true_and, and_true, and_self, Bool.and_self, es]
    refine ⟨.tup [.str [103, 114, 101, 97, 116], .str s], ?_, okP_tup (n := 179) (by simp [okP_str])⟩
    simp (decide := true) -implicitDefEqProofs only [x_var, x_vi, x_vo, x_vp, x_c, x_rdi, x_rdo, x_rdr, x_rki, x_rko, x_rkp, x_opt, x_bin, x_bin1, x_bin2, x_bin3, x_un, x_un1, x_un2, x_frz, x_fzi, x_fzo, x_fzr, x_fki, x_fko, x_fzl, x_fzd, x_fzt, x_args, x_args1, x_args2, x_im0, x_im1, x_nil, x_cons, x_cons1, x_cons2, x_cons3, x_call, x_call1, x_call2, x_call3, x_call4, x_ta0, x_ta1, x_ta2, x_tk1, x_tk2, x_tk3, x_rf0, x_rf1, x_rf2, x_nd0, x_nd1, x_nd2, x_wb0, x_wb1, x_po0, x_po1, x_po2, x_w0, x_w1, x_w2, x_w3, x_wk1, x_wk2, x_tV, x_tV1, x_tr, x_tr1, x_tr2, x_tr3, x_not, x_not1, x_and, x_and1, x_and2, x_or, x_or1, x_or2, x_andV, x_andV1, x_andV2, x_orV, x_orV1, x_orV2, x_notV, x_notV1, x_if, x_if1, x_if2, x_pno, x_pat, x_pat1, x_slc, x_slc1, x_slc2, x_slc3, x_m1, x_m11, x_m12, x_isS, x_iof, x_iof1, x_iof2, x_itl, x_itt, x_its, x_rng, x_rng1, x_rng2, x_lc, x_lc1, x_lc2, x_tg1, x_wi0, x_wi1, x_re0, x_re1, x_gk, x_ia0, x_ia1, x_ii1, x_ii2, x_seq, x_seq1, x_seq2, x_seq3, x_seq4, x_seq5, x_pass, x_brk, x_cont, x_retN, x_nxK, x_put, x_pk1, x_pk2, x_pk3, x_set, x_set1, x_set2, x_set3, x_asg, x_asg1, x_setN, x_setTp, x_sts0, x_sts1, x_sts2, x_ifS, x_ifS1, x_ifS2, x_ret, x_ret1, x_ret2, x_exp, x_exp1, x_exp2, x_ow, x_ow1, x_ow2, x_rs, x_rs1, x_rs2, x_app, x_app1, x_app2, x_app3, x_sput, x_sput1, x_sput2, x_sput3, x_sput4, x_sput5, x_for, x_for1, x_run, x_fin1, x_fin2, x_fin3, x_fin4, x_fin5, x_rvi, x_rvo, x_rvr, x_rk1, x_rk2, x_ba0, x_ba1, x_ba2, x_se, x_si, x_sm, x_tupD, x_lstD, x_plusS, x_plusL, x_lenS, x_lenL, x_lenT, x_sub, x_lt, x_gt, x_le, x_ge, x_neg, x_revs, x_neB, x_eqB, x_tB, x_pkn, x_iin, x_slcS, x_slcL, x_slcT, x_memT, x_memL, x_yes, x_tms, x_mod, x_fdiv, x_sm62, x_big, x_bigL, x_par, x_par1, x_par2, x_enm, x_enm1, x_enm2, x_newT, Out.bind_ok, Out.bind_exc, Out.bind_fail, List.getElem?_cons_zero, List.getElem?_cons_succ, List.set_cons_zero, List.set_cons_succ, plusI, eqI, Option.map_some, Option.map_none, List.length_cons, List.length_nil, Nat.zero_add, Nat.add_zero, List.map_cons, List.map_nil, reduceIte, if_true, if_false, Nat.reduceAdd, Nat.reduceSub, Nat.reduceLeDiff, List.replicate_succ, List.replicate_zero, List.cons_append, List.nil_append, Bool.false_eq_true, Bool.not_true, Bool.not_false, List.getElem?_nil, Bool.and_true, Bool.true_and, bne_iff_ne, ne_eq, Nat.succ_ne_zero, not_false_eq_true, not_true_eq_false, reduceCtorEq, Nat.add_one_sub_one, eq_self, Int.reduceLT, Int.reduceLE, Int.reduceNeg, Int.reduceAdd, Int.reduceSub, Int.reduceMul, Int.reduceEq, Int.reduceBEq, Int.reduceBNe, Int.reduceMod, Int.reduceDiv, Nat.reduceEqDiff, Int.reduceToNat, decide_true, decide_false, true_and, and_true, and_self, Bool.and_self, isn_t, idx0, eqSt, eqSf, ec, el, tupleL, plusT]
  | fault x y h1 h2 =>
    obtain ⟨s, es⟩ := name_ok hN h1
    obtain ⟨s2, es2⟩ := name_ok hN h2
    have ec : cutD [D.str [102, 97, 117, 108, 116], x, y] (some 1) none = [x, y] := rfl
    have el : lcL (.nm 2) stYes (eFrz (eCall g__law_name (aCons (eFrz (eVar 0)) (aCons (eFrz (eVar 2)) aNil)))) [x, y] [] [.imm N, .imm (.tup [.str [102, 97, 117, 108, 116], x, y]), .non] = .ok [.str s, .str s2] [.imm N, .imm (.tup [.str [102, 97, 117, 108, 116], x, y]), .non] := by
      simp (decide := true) -implicitDefEqProofs only [lcL, x_var, x_vi, x_vo, x_vp, x_c, x_rdi, x_rdo, x_rdr, x_rki, x_rko, x_rkp, x_opt, x_bin, x_bin1, x_bin2, x_bin3, x_un, x_un1, x_un2, x_frz, x_fzi, x_fzo, x_fzr, x_fki, x_fko, x_fzl, x_fzd, x_fzt, x_args, x_args1, x_args2, x_im0, x_im1, x_nil, x_cons, x_cons1, x_cons2, x_cons3, x_call, x_call1, x_call2, x_call3, x_call4, x_ta0, x_ta1, x_ta2, x_tk1, x_tk2, x_tk3, x_rf0, x_rf1, x_rf2, x_nd0, x_nd1, x_nd2, x_wb0, x_wb1, x_po0, x_po1, x_po2, x_w0, x_w1, x_w2, x_w3, x_wk1, x_wk2, x_tV, x_tV1, x_tr, x_tr1, x_tr2, x_tr3, x_not, x_not1, x_and, x_and1, x_and2, x_or, x_or1, x_or2, x_andV, x_andV1, x_andV2, x_orV, x_orV1, x_orV2, x_notV, x_notV1, x_if, x_if1, x_if2, x_pno, x_pat, x_pat1, x_slc, x_slc1, x_slc2, x_slc3, x_m1, x_m11, x_m12, x_isS, x_iof, x_iof1, x_iof2, x_itl, x_itt, x_its, x_rng, x_rng1, x_rng2, x_lc, x_lc1, x_lc2, x_tg1, x_wi0, x_wi1, x_re0, x_re1, x_gk, x_ia0, x_ia1, x_ii1, x_ii2, x_seq, x_seq1, x_seq2, x_seq3, x_seq4, x_seq5, x_pass, x_brk, x_cont, x_retN, x_nxK, x_put, x_pk1, x_pk2, x_pk3, x_set, x_set1, x_set2, x_set3, x_asg, x_asg1, x_setN, x_setTp, x_sts0, x_sts1, x_sts2, x_ifS, x_ifS1, x_ifS2, x_ret, x_ret1, x_ret2, x_exp, x_exp1, x_exp2, x_ow, x_ow1, x_ow2, x_rs, x_rs1, x_rs2, x_app, x_app1, x_app2, x_app3, x_sput, x_sput1, x_sput2, x_sput3, x_sput4, x_sput5, x_for, x_for1, x_run, x_fin1, x_fin2, x_fin3, x_fin4, x_fin5, x_rvi, x_rvo, x_rvr, x_rk1, x_rk2, x_ba0, x_ba1, x_ba2, x_se, x_si, x_sm, x_tupD, x_lstD, x_plusS, x_plusL, x_lenS, x_lenL, x_lenT, x_sub, x_lt, x_gt, x_le, x_ge, x_neg, x_revs, x_neB, x_eqB, x_tB, x_pkn, x_iin, x_slcS, x_slcL, x_slcT, x_memT, x_memL, x_yes, x_tms, x_mod, x_fdiv, x_sm62, x_big, x_bigL, x_par, x_par1, x_par2, x_enm, x_enm1, x_enm2, x_newT, Out.bind_ok, Out.bind_exc, Out.bind_fail, List.getElem?_cons_zero, List.getElem?_cons_succ, List.set_cons_zero, List.set_cons_succ, plusI, eqI, Option.map_some, Option.map_none, List.length_cons, List.length_nil, Nat.zero_add, Nat.add_zero, List.map_cons, List.map_nil, reduceIte, if_true, if_false, Nat.reduceAdd, Nat.reduceSub, Nat.reduceLeDiff, List.replicate_succ, List.replicate_zero, List.cons_append, List.nil_append, Bool.false_eq_true, Bool.not_true, Bool.not_false, List.getElem?_nil, Bool.and_true, Bool.true_and, bne_iff_ne, ne_eq, Nat.succ_ne_zero, not_false_eq_true, not_true_eq_false, reduceCtorEq, Nat.add_one_sub_one, eq_self, Int.reduceLT, Int.reduceLE, Int.reduceNeg, Int.reduceAdd, Int.reduceSub, Int.reduceMul, Int.reduceEq, Int.reduceBEq, Int.reduceBNe, Int.reduceMod, Int.reduceDiv, Nat.reduceEqDiff, Int.reduceToNat, decide_true, decide_false, true_and, and_true, and_self, Bool.and_self, es, es2]
    refine ⟨.tup [.str [102, 97, 117, 108, 116], .str s, .str s2], ?_, okP_tup (n := 179) (by simp [okP_str])⟩
    simp (decide := true) -implicitDefEqProofs only [x_var, x_vi, x_vo, x_vp, x_c, x_rdi, x_rdo, x_rdr, x_rki, x_rko, x_rkp, x_opt, x_bin, x_bin1, x_bin2, x_bin3, x_un, x_un1, x_un2, x_frz, x_fzi, x_fzo, x_fzr, x_fki, x_fko, x_fzl, x_fzd, x_fzt, x_args, x_args1, x_args2, x_im0, x_im1, x_nil, x_cons, x_cons1, x_cons2, x_cons3, x_call, x_call1, x_call2, x_call3, x_call4, x_ta0, x_ta1, x_ta2, x_tk1, x_tk2, x_tk3, x_rf0, x_rf1, x_rf2, x_nd0, x_nd1, x_nd2, x_wb0, x_wb1, x_po0, x_po1, x_po2, x_w0, x_w1, x_w2, x_w3, x_wk1, x_wk2, x_tV, x_tV1, x_tr, x_tr1, x_tr2, x_tr3, x_not, x_not1, x_and, x_and1, x_and2, x_or, x_or1, x_or2, x_andV, x_andV1, x_andV2, x_orV, x_orV1, x_orV2, x_notV, x_notV1, x_if, x_if1, x_if2, x_pno, x_pat, x_pat1, x_slc, x_slc1, x_slc2, x_slc3, x_m1, x_m11, x_m12, x_isS, x_iof, x_iof1, x_iof2, x_itl, x_itt, x_its, x_rng, x_rng1, x_rng2, x_lc, x_lc1, x_lc2, x_tg1, x_wi0, x_wi1, x_re0, x_re1, x_gk, x_ia0, x_ia1, x_ii1, x_ii2, x_seq, x_seq1, x_seq2, x_seq3, x_seq4, x_seq5, x_pass, x_brk, x_cont, x_retN, x_nxK, x_put, x_pk1, x_pk2, x_pk3, x_set, x_set1, x_set2, x_set3, x_asg, x_asg1, x_setN, x_setTp, x_sts0, x_sts1, x_sts2, x_ifS, x_ifS1, x_ifS2, x_ret, x_ret1, x_ret2, x_exp, x_exp1, x_exp2, x_ow, x_ow1, x_ow2, x_rs, x_rs1, x_rs2, x_app, x_app1, x_app2, x_app3, x_sput, x_sput1, x_sput2, x_sput3, x_sput4, x_sput5, x_for, x_for1, x_run, x_fin1, x_fin2, x_fin3, x_fin4, x_fin5, x_rvi, x_rvo, x_rvr, x_rk1, x_rk2, x_ba0, x_ba1, x_ba2, x_se, x_si, x_sm, x_tupD, x_lstD, x_plusS, x_plusL, x_lenS, x_lenL, x_lenT, x_sub, x_lt, x_gt, x_le, x_ge, x_neg, x_revs, x_neB, x_eqB, x_tB, x_pkn, x_iin, x_slcS, x_slcL, x_slcT, x_memT, x_memL, x_yes, x_tms, x_mod, x_fdiv, x_sm62, x_big, x_bigL, x_par, x_par1, x_par2, x_enm, x_enm1, x_enm2, x_newT, Out.bind_ok, Out.bind_exc, Out.bind_fail, List.getElem?_cons_zero, List.getElem?_cons_succ, List.set_cons_zero, List.set_cons_succ, plusI, eqI, Option.map_some, Option.map_none, List.length_cons, List.length_nil, Nat.zero_add, Nat.add_zero, List.map_cons, List.map_nil, reduceIte, if_true, if_false, Nat.reduceAdd, Nat.reduceSub, Nat.reduceLeDiff, List.replicate_succ, List.replicate_zero, List.cons_append, List.nil_append, Bool.false_eq_true, Bool.not_true, Bool.not_false, List.getElem?_nil, Bool.and_true, Bool.true_and, bne_iff_ne, ne_eq, Nat.succ_ne_zero, not_false_eq_true, not_true_eq_false, reduceCtorEq, Nat.add_one_sub_one, eq_self, Int.reduceLT, Int.reduceLE, Int.reduceNeg, Int.reduceAdd, Int.reduceSub, Int.reduceMul, Int.reduceEq, Int.reduceBEq, Int.reduceBNe, Int.reduceMod, Int.reduceDiv, Nat.reduceEqDiff, Int.reduceToNat, decide_true, decide_false, true_and, and_true, and_self, Bool.and_self, isn_t, idx0, eqSt, eqSf, ec, el, tupleL, plusT]
  | answer v h1 =>
    obtain ⟨ev, ov⟩ := value_ok hN 31 v h1 40 (by decide)
    have ev' : g__law_value [.imm N, .imm v] = .ret (.imm (valF 40 N v)) [.imm N, .imm v] := ev
    have ok2 : okP 180 (.tup [.str [97, 110, 115, 119, 101, 114], valF 40 N v]) = true := okP_tup (n := 179) (by
      intro d hd
      simp only [List.mem_cons, List.not_mem_nil, or_false] at hd
      rcases hd with rfl | rfl
      · exact okP_str _ _
      · exact ov 179 (by decide))
    refine ⟨.tup [.str [97, 110, 115, 119, 101, 114], valF 40 N v], ?_, ok2⟩
    simp (decide := true) -implicitDefEqProofs only [x_var, x_vi, x_vo, x_vp, x_c, x_rdi, x_rdo, x_rdr, x_rki, x_rko, x_rkp, x_opt, x_bin, x_bin1, x_bin2, x_bin3, x_un, x_un1, x_un2, x_frz, x_fzi, x_fzo, x_fzr, x_fki, x_fko, x_fzl, x_fzd, x_fzt, x_args, x_args1, x_args2, x_im0, x_im1, x_nil, x_cons, x_cons1, x_cons2, x_cons3, x_call, x_call1, x_call2, x_call3, x_call4, x_ta0, x_ta1, x_ta2, x_tk1, x_tk2, x_tk3, x_rf0, x_rf1, x_rf2, x_nd0, x_nd1, x_nd2, x_wb0, x_wb1, x_po0, x_po1, x_po2, x_w0, x_w1, x_w2, x_w3, x_wk1, x_wk2, x_tV, x_tV1, x_tr, x_tr1, x_tr2, x_tr3, x_not, x_not1, x_and, x_and1, x_and2, x_or, x_or1, x_or2, x_andV, x_andV1, x_andV2, x_orV, x_orV1, x_orV2, x_notV, x_notV1, x_if, x_if1, x_if2, x_pno, x_pat, x_pat1, x_slc, x_slc1, x_slc2, x_slc3, x_m1, x_m11, x_m12, x_isS, x_iof, x_iof1, x_iof2, x_itl, x_itt, x_its, x_rng, x_rng1, x_rng2, x_lc, x_lc1, x_lc2, x_tg1, x_wi0, x_wi1, x_re0, x_re1, x_gk, x_ia0, x_ia1, x_ii1, x_ii2, x_seq, x_seq1, x_seq2, x_seq3, x_seq4, x_seq5, x_pass, x_brk, x_cont, x_retN, x_nxK, x_put, x_pk1, x_pk2, x_pk3, x_set, x_set1, x_set2, x_set3, x_asg, x_asg1, x_setN, x_setTp, x_sts0, x_sts1, x_sts2, x_ifS, x_ifS1, x_ifS2, x_ret, x_ret1, x_ret2, x_exp, x_exp1, x_exp2, x_ow, x_ow1, x_ow2, x_rs, x_rs1, x_rs2, x_app, x_app1, x_app2, x_app3, x_sput, x_sput1, x_sput2, x_sput3, x_sput4, x_sput5, x_for, x_for1, x_run, x_fin1, x_fin2, x_fin3, x_fin4, x_fin5, x_rvi, x_rvo, x_rvr, x_rk1, x_rk2, x_ba0, x_ba1, x_ba2, x_se, x_si, x_sm, x_tupD, x_lstD, x_plusS, x_plusL, x_lenS, x_lenL, x_lenT, x_sub, x_lt, x_gt, x_le, x_ge, x_neg, x_revs, x_neB, x_eqB, x_tB, x_pkn, x_iin, x_slcS, x_slcL, x_slcT, x_memT, x_memL, x_yes, x_tms, x_mod, x_fdiv, x_sm62, x_big, x_bigL, x_par, x_par1, x_par2, x_enm, x_enm1, x_enm2, x_newT, Out.bind_ok, Out.bind_exc, Out.bind_fail, List.getElem?_cons_zero, List.getElem?_cons_succ, List.set_cons_zero, List.set_cons_succ, plusI, eqI, Option.map_some, Option.map_none, List.length_cons, List.length_nil, Nat.zero_add, Nat.add_zero, List.map_cons, List.map_nil, reduceIte, if_true, if_false, Nat.reduceAdd, Nat.reduceSub, Nat.reduceLeDiff, List.replicate_succ, List.replicate_zero, List.cons_append, List.nil_append, Bool.false_eq_true, Bool.not_true, Bool.not_false, List.getElem?_nil, Bool.and_true, Bool.true_and, bne_iff_ne, ne_eq, Nat.succ_ne_zero, not_false_eq_true, not_true_eq_false, reduceCtorEq, Nat.add_one_sub_one, eq_self, Int.reduceLT, Int.reduceLE, Int.reduceNeg, Int.reduceAdd, Int.reduceSub, Int.reduceMul, Int.reduceEq, Int.reduceBEq, Int.reduceBNe, Int.reduceMod, Int.reduceDiv, Nat.reduceEqDiff, Int.reduceToNat, decide_true, decide_false, true_and, and_true, and_self, Bool.and_self, isn_t, idx0, idx1, eqSt, eqSf, ev']
end K31

namespace K31
open PySem L2 PF
theorem drw {d : D} (m : Int) (ok : dealOk d) (hm : 0 < m) (hm2 : m ≤ 4611686018427387904) : ∃ r d', 0 ≤ r ∧ r < m ∧ dealOk d' ∧ g__law_draw [.mt d, .imm (.int m)] = .ret (.imm (.int r)) [.mt d', .imm (.int m)] := drawN m ok hm hm2
theorem idxS {l : List (List Nat)} {r : Int} (h0 : 0 ≤ r) (h1 : r < l.length) : ∃ s, idxD (.lst (l.map .str)) (.int r) = some (.imm (.str s)) := by
  obtain ⟨d, hd, _, e⟩ := idx_lst (l := l.map D.str) h0 (by rw [List.length_map]; exact h1)
  obtain ⟨s, _, rfl⟩ := List.mem_map.mp hd
  exact ⟨s, e⟩
theorem idxP {l : List IP} {r : Int} (h0 : 0 ≤ r) (h1 : r < l.length) : ∃ q ∈ l, idxD (.lst (l.map encI)) (.int r) = some (.imm (encI q)) := by
  obtain ⟨d, hd, _, e⟩ := idx_lst (l := l.map encI) h0 (by rw [List.length_map]; exact h1)
  obtain ⟨s, hs, rfl⟩ := List.mem_map.mp hd
  exact ⟨s, hs, e⟩
abbrev Wl (ws : List (List Nat)) : D := .lst (ws.map .str)
abbrev Pl (pl : List IP) : D := .lst (pl.map encI)
section
variable {ws : List (List Nat)} {pl : List IP} (hws : 1 ≤ ws.length ∧ ws.length ≤ 100) (hpl : 1 ≤ pl.length ∧ pl.length ≤ 100)
include hws hpl
theorem any_name_ok {d : D} (ok : dealOk d) : ∃ x d', Nm pl x ∧ dealOk d' ∧ g__law_any_name [.mt d, .imm (Wl ws), .imm (Pl pl)] = .ret (.imm x) [.mt d', .imm (Wl ws), .imm (Pl pl)] := by
  obtain ⟨r, d1, a0, a1, ok1, e1⟩ := drw (2 : Int) ok (by decide) (by decide)
  have l1 : ((ws.map D.str).length : Int) = (ws.length : Int) := by rw [List.length_map]
  have l2 : ((pl.map encI).length : Int) = (pl.length : Int) := by rw [List.length_map]
  show ∃ x d', _ ∧ _ ∧ runG 3 3 b__law_any_name _ = _
  unfold b__law_any_name
  have hr : r = 0 ∨ r = 1 := by omega
  rcases hr with rfl | rfl
  · obtain ⟨k, d2, b0, b1, ok2, e2⟩ := drw (ws.length : Int) ok1 (by omega) (by omega)
    obtain ⟨s, es⟩ := idxS (l := ws) b0 b1
    refine ⟨.str s, d2, .s s, ok2, ?_⟩
    simp (decide := true) -implicitDefEqProofs only [x_var, x_vi, x_vo, x_vp, x_c, x_rdi, x_rdo, x_rdr, x_rki, x_rko, x_rkp, x_opt, x_bin, x_bin1, x_bin2, x_bin3, x_un, x_un1, x_un2, x_frz, x_fzi, x_fzo, x_fzr, x_fki, x_fko, x_fzl, x_fzd, x_fzt, x_args, x_args1, x_args2, x_im0, x_im1, x_nil, x_cons, x_cons1, x_cons2, x_cons3, x_call, x_call1, x_call2, x_call3, x_call4, x_ta0, x_ta1, x_ta2, x_tk1, x_tk2, x_tk3, x_rf0, x_rf1, x_rf2, x_nd0, x_nd1, x_nd2, x_wb0, x_wb1, x_po0, x_po1, x_po2, x_w0, x_w1, x_w2, x_w3, x_wk1, x_wk2, x_tV, x_tV1, x_tr, x_tr1, x_tr2, x_tr3, x_not, x_not1, x_and, x_and1, x_and2, x_or, x_or1, x_or2, x_andV, x_andV1, x_andV2, x_orV, x_orV1, x_orV2, x_notV, x_notV1, x_if, x_if1, x_if2, x_pno, x_pat, x_pat1, x_slc, x_slc1, x_slc2, x_slc3, x_m1, x_m11, x_m12, x_isS, x_iof, x_iof1, x_iof2, x_itl, x_itt, x_its, x_rng, x_rng1, x_rng2, x_lc, x_lc1, x_lc2, x_tg1, x_wi0, x_wi1, x_re0, x_re1, x_gk, x_ia0, x_ia1, x_ii1, x_ii2, x_seq, x_seq1, x_seq2, x_seq3, x_seq4, x_seq5, x_pass, x_brk, x_cont, x_retN, x_nxK, x_put, x_pk1, x_pk2, x_pk3, x_set, x_set1, x_set2, x_set3, x_asg, x_asg1, x_setN, x_setTp, x_sts0, x_sts1, x_sts2, x_ifS, x_ifS1, x_ifS2, x_ret, x_ret1, x_ret2, x_exp, x_exp1, x_exp2, x_ow, x_ow1, x_ow2, x_rs, x_rs1, x_rs2, x_app, x_app1, x_app2, x_app3, x_sput, x_sput1, x_sput2, x_sput3, x_sput4, x_sput5, x_for, x_for1, x_run, x_fin1, x_fin2, x_fin3, x_fin4, x_fin5, x_rvi, x_rvo, x_rvr, x_rk1, x_rk2, x_ba0, x_ba1, x_ba2, x_se, x_si, x_sm, x_tupD, x_lstD, x_plusS, x_plusL, x_lenS, x_lenL, x_lenT, x_sub, x_lt, x_gt, x_le, x_ge, x_neg, x_revs, x_neB, x_eqB, x_tB, x_pkn, x_iin, x_slcS, x_slcL, x_slcT, x_memT, x_memL, x_yes, x_tms, x_mod, x_fdiv, x_sm62, x_big, x_bigL, x_par, x_par1, x_par2, x_enm, x_enm1, x_enm2, x_newT, Out.bind_ok, Out.bind_exc, Out.bind_fail, List.getElem?_cons_zero, List.getElem?_cons_succ, List.set_cons_zero, List.set_cons_succ, plusI, eqI, Option.map_some, Option.map_none, List.length_cons, List.length_nil, Nat.zero_add, Nat.add_zero, List.map_cons, List.map_nil, reduceIte, if_true, if_false, Nat.reduceAdd, Nat.reduceSub, Nat.reduceLeDiff, List.replicate_succ, List.replicate_zero, List.cons_append, List.nil_append, Bool.false_eq_true, Bool.not_true, Bool.not_false, List.getElem?_nil, Bool.and_true, Bool.true_and, bne_iff_ne, ne_eq, Nat.succ_ne_zero, not_false_eq_true, not_true_eq_false, reduceCtorEq, Nat.add_one_sub_one, eq_self, Int.reduceLT, Int.reduceLE, Int.reduceNeg, Int.reduceAdd, Int.reduceSub, Int.reduceMul, Int.reduceEq, Int.reduceBEq, Int.reduceBNe, Int.reduceMod, Int.reduceDiv, Nat.reduceEqDiff, Int.reduceToNat, decide_true, decide_false, true_and, and_true, and_self, Bool.and_self, e1, l1, e2, es]
  · obtain ⟨k, d2, b0, b1, ok2, e2⟩ := drw (pl.length : Int) ok1 (by omega) (by omega)
    obtain ⟨q, hq, es⟩ := idxP (l := pl) b0 b1
    refine ⟨encI q, d2, .p q hq, ok2, ?_⟩
    generalize encI q = x at *
    simp (decide := true) -implicitDefEqProofs only [x_var, x_vi, x_vo, x_vp, x_c, x_rdi, x_rdo, x_rdr, x_rki, x_rko, x_rkp, x_opt, x_bin, x_bin1, x_bin2, x_bin3, x_un, x_un1, x_un2, x_frz, x_fzi, x_fzo, x_fzr, x_fki, x_fko, x_fzl, x_fzd, x_fzt, x_args, x_args1, x_args2, x_im0, x_im1, x_nil, x_cons, x_cons1, x_cons2, x_cons3, x_call, x_call1, x_call2, x_call3, x_call4, x_ta0, x_ta1, x_ta2, x_tk1, x_tk2, x_tk3, x_rf0, x_rf1, x_rf2, x_nd0, x_nd1, x_nd2, x_wb0, x_wb1, x_po0, x_po1, x_po2, x_w0, x_w1, x_w2, x_w3, x_wk1, x_wk2, x_tV, x_tV1, x_tr, x_tr1, x_tr2, x_tr3, x_not, x_not1, x_and, x_and1, x_and2, x_or, x_or1, x_or2, x_andV, x_andV1, x_andV2, x_orV, x_orV1, x_orV2, x_notV, x_notV1, x_if, x_if1, x_if2, x_pno, x_pat, x_pat1, x_slc, x_slc1, x_slc2, x_slc3, x_m1, x_m11, x_m12, x_isS, x_iof, x_iof1, x_iof2, x_itl, x_itt, x_its, x_rng, x_rng1, x_rng2, x_lc, x_lc1, x_lc2, x_tg1, x_wi0, x_wi1, x_re0, x_re1, x_gk, x_ia0, x_ia1, x_ii1, x_ii2, x_seq, x_seq1, x_seq2, x_seq3, x_seq4, x_seq5, x_pass, x_brk, x_cont, x_retN, x_nxK, x_put, x_pk1, x_pk2, x_pk3, x_set, x_set1, x_set2, x_set3, x_asg, x_asg1, x_setN, x_setTp, x_sts0, x_sts1, x_sts2, x_ifS, x_ifS1, x_ifS2, x_ret, x_ret1, x_ret2, x_exp, x_exp1, x_exp2, x_ow, x_ow1, x_ow2, x_rs, x_rs1, x_rs2, x_app, x_app1, x_app2, x_app3, x_sput, x_sput1, x_sput2, x_sput3, x_sput4, x_sput5, x_for, x_for1, x_run, x_fin1, x_fin2, x_fin3, x_fin4, x_fin5, x_rvi, x_rvo, x_rvr, x_rk1, x_rk2, x_ba0, x_ba1, x_ba2, x_se, x_si, x_sm, x_tupD, x_lstD, x_plusS, x_plusL, x_lenS, x_lenL, x_lenT, x_sub, x_lt, x_gt, x_le, x_ge, x_neg, x_revs, x_neB, x_eqB, x_tB, x_pkn, x_iin, x_slcS, x_slcL, x_slcT, x_memT, x_memL, x_yes, x_tms, x_mod, x_fdiv, x_sm62, x_big, x_bigL, x_par, x_par1, x_par2, x_enm, x_enm1, x_enm2, x_newT, Out.bind_ok, Out.bind_exc, Out.bind_fail, List.getElem?_cons_zero, List.getElem?_cons_succ, List.set_cons_zero, List.set_cons_succ, plusI, eqI, Option.map_some, Option.map_none, List.length_cons, List.length_nil, Nat.zero_add, Nat.add_zero, List.map_cons, List.map_nil, reduceIte, if_true, if_false, Nat.reduceAdd, Nat.reduceSub, Nat.reduceLeDiff, List.replicate_succ, List.replicate_zero, List.cons_append, List.nil_append, Bool.false_eq_true, Bool.not_true, Bool.not_false, List.getElem?_nil, Bool.and_true, Bool.true_and, bne_iff_ne, ne_eq, Nat.succ_ne_zero, not_false_eq_true, not_true_eq_false, reduceCtorEq, Nat.add_one_sub_one, eq_self, Int.reduceLT, Int.reduceLE, Int.reduceNeg, Int.reduceAdd, Int.reduceSub, Int.reduceMul, Int.reduceEq, Int.reduceBEq, Int.reduceBNe, Int.reduceMod, Int.reduceDiv, Nat.reduceEqDiff, Int.reduceToNat, decide_true, decide_false, true_and, and_true, and_self, Bool.and_self, e1, l2, e2, es]
theorem any_step {P : D → Prop} {m : Nat} {room : Int} (h0 : 0 ≤ room) (h1 : room ≤ 1000) (ih : 1 < room → ∀ d r', dealOk d → 0 ≤ r' → r' ≤ room - 1 → ∃ v d', P v ∧ dealOk d' ∧ r__law_any_value m [.mt d, .imm (Wl ws), .imm (Pl pl), .imm (.int r')] = .ret (.imm v) [.mt d', .imm (Wl ws), .imm (Pl pl), .imm (.int r')]) {d : D} (ok : dealOk d) :
    ∃ v d', Sh pl P v ∧ dealOk d' ∧ r__law_any_value (m + 1) [.mt d, .imm (Wl ws), .imm (Pl pl), .imm (.int room)] = .ret (.imm v) [.mt d', .imm (Wl ws), .imm (Pl pl), .imm (.int room)] := by
  have hbig : (1000 : Nat) < big := by decide
  obtain ⟨f, d1, a0, a1, ok1, e1⟩ := drw (5 : Int) ok (by decide) (by decide)
  show ∃ v d', _ ∧ _ ∧ runG 4 9 (b__law_any_value (r__law_any_value m)) _ = _
  unfold b__law_any_value
  by_cases hf : f = 0
  · subst hf
    obtain ⟨r, d2, b0, b1, ok2, e2⟩ := drw (1000000 : Int) ok1 (by decide) (by decide)
    refine ⟨.int r, d2, .num r, ok2, ?_⟩
    simp (decide := true) -implicitDefEqProofs only [x_var, x_vi, x_vo, x_vp, x_c, x_rdi, x_rdo, x_rdr, x_rki, x_rko, x_rkp, x_opt, x_bin, x_bin1, x_bin2, x_bin3, x_un, x_un1, x_un2, x_frz, x_fzi, x_fzo, x_fzr, x_fki, x_fko, x_fzl, x_fzd, x_fzt, x_args, x_args1, x_args2, x_im0, x_im1, x_nil, x_cons, x_cons1, x_cons2, x_cons3, x_call, x_call1, x_call2, x_call3, x_call4, x_ta0, x_ta1, x_ta2, x_tk1, x_tk2, x_tk3, x_rf0, x_rf1, x_rf2, x_nd0, x_nd1, x_nd2, x_wb0, x_wb1, x_po0, x_po1, x_po2, x_w0, x_w1, x_w2, x_w3, x_wk1, x_wk2, x_tV, x_tV1, x_tr, x_tr1, x_tr2, x_tr3, x_not, x_not1, x_and, x_and1, x_and2, x_or, x_or1, x_or2, x_andV, x_andV1, x_andV2, x_orV, x_orV1, x_orV2, x_notV, x_notV1, x_if, x_if1, x_if2, x_pno, x_pat, x_pat1, x_slc, x_slc1, x_slc2, x_slc3, x_m1, x_m11, x_m12, x_isS, x_iof, x_iof1, x_iof2, x_itl, x_itt, x_its, x_rng, x_rng1, x_rng2, x_lc, x_lc1, x_lc2, x_tg1, x_wi0, x_wi1, x_re0, x_re1, x_gk, x_ia0, x_ia1, x_ii1, x_ii2, x_seq, x_seq1, x_seq2, x_seq3, x_seq4, x_seq5, x_pass, x_brk, x_cont, x_retN, x_nxK, x_put, x_pk1, x_pk2, x_pk3, x_set, x_set1, x_set2, x_set3, x_asg, x_asg1, x_setN, x_setTp, x_sts0, x_sts1, x_sts2, x_ifS, x_ifS1, x_ifS2, x_ret, x_ret1, x_ret2, x_exp, x_exp1, x_exp2, x_ow, x_ow1, x_ow2, x_rs, x_rs1, x_rs2, x_app, x_app1, x_app2, x_app3, x_sput, x_sput1, x_sput2, x_sput3, x_sput4, x_sput5, x_for, x_for1, x_run, x_fin1, x_fin2, x_fin3, x_fin4, x_fin5, x_rvi, x_rvo, x_rvr, x_rk1, x_rk2, x_ba0, x_ba1, x_ba2, x_se, x_si, x_sm, x_tupD, x_lstD, x_plusS, x_plusL, x_lenS, x_lenL, x_lenT, x_sub, x_lt, x_gt, x_le, x_ge, x_neg, x_revs, x_neB, x_eqB, x_tB, x_pkn, x_iin, x_slcS, x_slcL, x_slcT, x_memT, x_memL, x_yes, x_tms, x_mod, x_fdiv, x_sm62, x_big, x_bigL, x_par, x_par1, x_par2, x_enm, x_enm1, x_enm2, x_newT, Out.bind_ok, Out.bind_exc, Out.bind_fail, List.getElem?_cons_zero, List.getElem?_cons_succ, List.set_cons_zero, List.set_cons_succ, plusI, eqI, Option.map_some, Option.map_none, List.length_cons, List.length_nil, Nat.zero_add, Nat.add_zero, List.map_cons, List.map_nil, reduceIte, if_true, if_false, Nat.reduceAdd, Nat.reduceSub, Nat.reduceLeDiff, List.replicate_succ, List.replicate_zero, List.cons_append, List.nil_append, Bool.false_eq_true, Bool.not_true, Bool.not_false, List.getElem?_nil, Bool.and_true, Bool.true_and, bne_iff_ne, ne_eq, Nat.succ_ne_zero, not_false_eq_true, not_true_eq_false, reduceCtorEq, Nat.add_one_sub_one, eq_self, Int.reduceLT, Int.reduceLE, Int.reduceNeg, Int.reduceAdd, Int.reduceSub, Int.reduceMul, Int.reduceEq, Int.reduceBEq, Int.reduceBNe, Int.reduceMod, Int.reduceDiv, Nat.reduceEqDiff, Int.reduceToNat, decide_true, decide_false, true_and, and_true, and_self, Bool.and_self, e1, e2]
  · have ef : eqD (.int f) (.int 0) = some (.imm (.bl false)) := by
      show some (Vl.imm (.bl (f == 0))) = _
      rw [show (f == 0) = false from by simpa using hf]
    -- many
    obtain ⟨mx, hmx, imx⟩ : ∃ mx : Int, (mx = 1 ∨ (1 < room ∧ mx = 4)) ∧ idxD (.lst [.int 1, .int 4]) (.int (if 1 < room then 1 else 0)) = some (.imm (.int mx)) := by
      by_cases h : 1 < room
      · exact ⟨4, .inr ⟨h, rfl⟩, by rw [if_pos h]; rfl⟩
      · exact ⟨1, .inl rfl, by rw [if_neg h]; rfl⟩
    have eint : intD (.bl (decide (1 < room))) = some (.imm (.int (if 1 < room then 1 else 0))) := by
      by_cases h : 1 < room
      · rw [if_pos h, decide_eq_true h]; rfl
      · rw [if_neg h, decide_eq_false h]; rfl
    have rest : ∀ (d2 : D) (x : D) (w : List Nat), dealOk d2 → Nm pl x → ∃ v d3 mn ρ', Sh pl P v ∧ dealOk d3 ∧
        sSeq (sSet 7 (eCall g__law_draw (aCons (eVar 0) (aCons (eBin idxD (eArgs lstD (aCons (eC (.int 1)) (aCons (eC (.int 4)) aNil))) (eUn intD (eBin gtD (eVar 3) (eC (.int 1))))) aNil))))
          (sRet (eArgs tupD (aCons (eFrz (eVar 6)) (aCons (eFrz (eVar 5)) (aCons (eUn tupleD (eLc (iRng (aCons (eVar 7) aNil)) (.nm 8) stYes (eFrz (eCall (r__law_any_value m) (aCons (eVar 0) (aCons (eFrz (eVar 1)) (aCons (eFrz (eVar 2)) (aCons (eBin fdivD (eBin subD (eVar 3) (eC (.int 1))) (eBin maxD (eC (.int 1)) (eVar 7))) aNil)))))))) aNil)))))
          [.par d2, .imm (Wl ws), .imm (Pl pl), .imm (.int room), .imm (.int f), .imm x, .imm (.str w), .non, .non] = .rt (.imm v) [.par d3, .imm (Wl ws), .imm (Pl pl), .imm (.int room), .imm (.int f), .imm x, .imm (.str w), .imm (.int mn), ρ'] := by
      intro d2 x w ok2 hx
      obtain ⟨mn, d3, m0, m1, ok3, e3⟩ := drw mx ok2 (by omega) (by omega)
      have hmn : mn = 0 ∨ (1 < room ∧ mn ≤ 3) := by omega
      obtain ⟨dv, hdv, edv⟩ : ∃ dv : Int, (1 ≤ dv ∧ dv ≤ 4) ∧ maxD (.int 1) (.int mn) = some (.imm (.int dv)) := by
        by_cases h : mn > 1
        · exact ⟨mn, by omega, by show some (Vl.imm (.int (if mn > 1 then mn else 1))) = _; rw [if_pos h]⟩
        · exact ⟨1, by omega, by show some (Vl.imm (.int (if mn > 1 then mn else 1))) = _; rw [if_neg h]⟩
      have efd : fdivD (.int (room - 1)) (.int dv) = some (.imm (.int ((room - 1) / dv))) := x_fdiv _ _ ⟨by omega, by omega⟩
      have hq : mn ≠ 0 → 0 ≤ (room - 1) / dv ∧ (room - 1) / dv ≤ room - 1 := fun h => by
        have hr : 1 < room := by omega
        refine ⟨Int.ediv_nonneg (by omega) (by omega), Int.ediv_le_self _ (by omega)⟩
      obtain ⟨acc, ρ', eT, d4, ok4, hacc, hal, er⟩ := lcL_go (t := .nm 8) (c := stYes) (e := eFrz (eCall (r__law_any_value m) (aCons (eVar 0) (aCons (eFrz (eVar 1)) (aCons (eFrz (eVar 2)) (aCons (eBin fdivD (eBin subD (eVar 3) (eC (.int 1))) (eBin maxD (eC (.int 1)) (eVar 7))) aNil))))))
        (fun k acc ρ => ∃ d, dealOk d ∧ (∀ v ∈ acc, P v) ∧ acc.length = k ∧ ρ = [.par d, .imm (Wl ws), .imm (Pl pl), .imm (.int room), .imm (.int f), .imm x, .imm (.str w), .imm (.int mn), .non])
        (rngD 0 mn.toNat) 0 [] [.par d3, .imm (Wl ws), .imm (Pl pl), .imm (.int room), .imm (.int f), .imm x, .imm (.str w), .imm (.int mn), .non] ⟨d3, ok3, by simp, rfl, rfl⟩ (fun j y hy acc ρ h => by
          obtain ⟨d, okd, hacc, hlen, rfl⟩ := h
          obtain ⟨rfl, hj⟩ := rngD_get hy
          have hm0 : mn ≠ 0 := fun z => by rw [z] at hj; exact absurd hj (Nat.not_lt_zero _)
          obtain ⟨q0, q1⟩ := hq hm0
          obtain ⟨v, d', hv, ok', ev⟩ := ih (by omega) d ((room - 1) / dv) okd q0 q1
          refine ⟨[.par d, .imm (Wl ws), .imm (Pl pl), .imm (.int room), .imm (.int f), .imm x, .imm (.str w), .imm (.int mn), .imm (.int (0 + j))], rfl, true, _, rfl, fun _ => ⟨by omega, v, [.par d', .imm (Wl ws), .imm (Pl pl), .imm (.int room), .imm (.int f), .imm x, .imm (.str w), .imm (.int mn), .imm (.int (0 + j))], ?_, d', ok', ?_, by rw [List.length_append, hlen, List.length_singleton], rfl⟩, fun z => nomatch z⟩
          · simp (decide := true) -implicitDefEqProofs only [x_var, x_vi, x_vo, x_vp, x_c, x_rdi, x_rdo, x_rdr, x_rki, x_rko, x_rkp, x_opt, x_bin, x_bin1, x_bin2, x_bin3, x_un, x_un1, x_un2, x_frz, x_fzi, x_fzo, x_fzr, x_fki, x_fko, x_fzl, x_fzd, x_fzt, x_args, x_args1, x_args2, x_im0, x_im1, x_nil, x_cons, x_cons1, x_cons2, x_cons3, x_call, x_call1, x_call2, x_call3, x_call4, x_ta0, x_ta1, x_ta2, x_tk1, x_tk2, x_tk3, x_rf0, x_rf1, x_rf2, x_nd0, x_nd1, x_nd2, x_wb0, x_wb1, x_po0, x_po1, x_po2, x_w0, x_w1, x_w2, x_w3, x_wk1, x_wk2, x_tV, x_tV1, x_tr, x_tr1, x_tr2, x_tr3, x_not, x_not1, x_and, x_and1, x_and2, x_or, x_or1, x_or2, x_andV, x_andV1, x_andV2, x_orV, x_orV1, x_orV2, x_notV, x_notV1, x_if, x_if1, x_if2, x_pno, x_pat, x_pat1, x_slc, x_slc1, x_slc2, x_slc3, x_m1, x_m11, x_m12, x_isS, x_iof, x_iof1, x_iof2, x_itl, x_itt, x_its, x_rng, x_rng1, x_rng2, x_lc, x_lc1, x_lc2, x_tg1, x_wi0, x_wi1, x_re0, x_re1, x_gk, x_ia0, x_ia1, x_ii1, x_ii2, x_seq, x_seq1, x_seq2, x_seq3, x_seq4, x_seq5, x_pass, x_brk, x_cont, x_retN, x_nxK, x_put, x_pk1, x_pk2, x_pk3, x_set, x_set1, x_set2, x_set3, x_asg, x_asg1, x_setN, x_setTp, x_sts0, x_sts1, x_sts2, x_ifS, x_ifS1, x_ifS2, x_ret, x_ret1, x_ret2, x_exp, x_exp1, x_exp2, x_ow, x_ow1, x_ow2, x_rs, x_rs1, x_rs2, x_app, x_app1, x_app2, x_app3, x_sput, x_sput1, x_sput2, x_sput3, x_sput4, x_sput5, x_for, x_for1, x_run, x_fin1, x_fin2, x_fin3, x_fin4, x_fin5, x_rvi, x_rvo, x_rvr, x_rk1, x_rk2, x_ba0, x_ba1, x_ba2, x_se, x_si, x_sm, x_tupD, x_lstD, x_plusS, x_plusL, x_lenS, x_lenL, x_lenT, x_sub, x_lt, x_gt, x_le, x_ge, x_neg, x_revs, x_neB, x_eqB, x_tB, x_pkn, x_iin, x_slcS, x_slcL, x_slcT, x_memT, x_memL, x_yes, x_tms, x_mod, x_fdiv, x_sm62, x_big, x_bigL, x_par, x_par1, x_par2, x_enm, x_enm1, x_enm2, x_newT, Out.bind_ok, Out.bind_exc, Out.bind_fail, List.getElem?_cons_zero, List.getElem?_cons_succ, List.set_cons_zero, List.set_cons_succ, plusI, eqI, Option.map_some, Option.map_none, List.length_cons, List.length_nil, Nat.zero_add, Nat.add_zero, List.map_cons, List.map_nil, reduceIte, if_true, if_false, Nat.reduceAdd, Nat.reduceSub, Nat.reduceLeDiff, List.replicate_succ, List.replicate_zero, List.cons_append, List.nil_append, Bool.false_eq_true, Bool.not_true, Bool.not_false, List.getElem?_nil, Bool.and_true, Bool.true_and, bne_iff_ne, ne_eq, Nat.succ_ne_zero, not_false_eq_true, not_true_eq_false, reduceCtorEq, Nat.add_one_sub_one, eq_self, Int.reduceLT, Int.reduceLE, Int.reduceNeg, Int.reduceAdd, Int.reduceSub, Int.reduceMul, Int.reduceEq, Int.reduceBEq, Int.reduceBNe, Int.reduceMod, Int.reduceDiv, Nat.reduceEqDiff, Int.reduceToNat, decide_true, decide_false, true_and, and_true, and_self, Bool.and_self, edv, efd, ev]
          · intro v' hv'
            rcases List.mem_append.mp hv' with hv' | hv'
            · exact hacc v' hv'
            · rw [List.mem_singleton] at hv'
              rw [hv']; exact hv)
      rw [rngD_len] at hal
      subst er
      have h62 : small62 mn = true := x_sm62 (by simp; omega)
      refine ⟨.tup [.str w, x, .tup acc], d4, mn, .non, .thing w x acc hx hacc (by omega), ok4, ?_⟩
      simp (decide := true) -implicitDefEqProofs only [x_var, x_vi, x_vo, x_vp, x_c, x_rdi, x_rdo, x_rdr, x_rki, x_rko, x_rkp, x_opt, x_bin, x_bin1, x_bin2, x_bin3, x_un, x_un1, x_un2, x_frz, x_fzi, x_fzo, x_fzr, x_fki, x_fko, x_fzl, x_fzd, x_fzt, x_args, x_args1, x_args2, x_im0, x_im1, x_nil, x_cons, x_cons1, x_cons2, x_cons3, x_call, x_call1, x_call2, x_call3, x_call4, x_ta0, x_ta1, x_ta2, x_tk1, x_tk2, x_tk3, x_rf0, x_rf1, x_rf2, x_nd0, x_nd1, x_nd2, x_wb0, x_wb1, x_po0, x_po1, x_po2, x_w0, x_w1, x_w2, x_w3, x_wk1, x_wk2, x_tV, x_tV1, x_tr, x_tr1, x_tr2, x_tr3, x_not, x_not1, x_and, x_and1, x_and2, x_or, x_or1, x_or2, x_andV, x_andV1, x_andV2, x_orV, x_orV1, x_orV2, x_notV, x_notV1, x_if, x_if1, x_if2, x_pno, x_pat, x_pat1, x_slc, x_slc1, x_slc2, x_slc3, x_m1, x_m11, x_m12, x_isS, x_iof, x_iof1, x_iof2, x_itl, x_itt, x_its, x_rng, x_rng1, x_rng2, x_lc, x_lc1, x_lc2, x_tg1, x_wi0, x_wi1, x_re0, x_re1, x_gk, x_ia0, x_ia1, x_ii1, x_ii2, x_seq, x_seq1, x_seq2, x_seq3, x_seq4, x_seq5, x_pass, x_brk, x_cont, x_retN, x_nxK, x_put, x_pk1, x_pk2, x_pk3, x_set, x_set1, x_set2, x_set3, x_asg, x_asg1, x_setN, x_setTp, x_sts0, x_sts1, x_sts2, x_ifS, x_ifS1, x_ifS2, x_ret, x_ret1, x_ret2, x_exp, x_exp1, x_exp2, x_ow, x_ow1, x_ow2, x_rs, x_rs1, x_rs2, x_app, x_app1, x_app2, x_app3, x_sput, x_sput1, x_sput2, x_sput3, x_sput4, x_sput5, x_for, x_for1, x_run, x_fin1, x_fin2, x_fin3, x_fin4, x_fin5, x_rvi, x_rvo, x_rvr, x_rk1, x_rk2, x_ba0, x_ba1, x_ba2, x_se, x_si, x_sm, x_tupD, x_lstD, x_plusS, x_plusL, x_lenS, x_lenL, x_lenT, x_sub, x_lt, x_gt, x_le, x_ge, x_neg, x_revs, x_neB, x_eqB, x_tB, x_pkn, x_iin, x_slcS, x_slcL, x_slcT, x_memT, x_memL, x_yes, x_tms, x_mod, x_fdiv, x_sm62, x_big, x_bigL, x_par, x_par1, x_par2, x_enm, x_enm1, x_enm2, x_newT, Out.bind_ok, Out.bind_exc, Out.bind_fail, List.getElem?_cons_zero, List.getElem?_cons_succ, List.set_cons_zero, List.set_cons_succ, plusI, eqI, Option.map_some, Option.map_none, List.length_cons, List.length_nil, Nat.zero_add, Nat.add_zero, List.map_cons, List.map_nil, reduceIte, if_true, if_false, Nat.reduceAdd, Nat.reduceSub, Nat.reduceLeDiff, List.replicate_succ, List.replicate_zero, List.cons_append, List.nil_append, Bool.false_eq_true, Bool.not_true, Bool.not_false, List.getElem?_nil, Bool.and_true, Bool.true_and, bne_iff_ne, ne_eq, Nat.succ_ne_zero, not_false_eq_true, not_true_eq_false, reduceCtorEq, Nat.add_one_sub_one, eq_self, Int.reduceLT, Int.reduceLE, Int.reduceNeg, Int.reduceAdd, Int.reduceSub, Int.reduceMul, Int.reduceEq, Int.reduceBEq, Int.reduceBNe, Int.reduceMod, Int.reduceDiv, Nat.reduceEqDiff, Int.reduceToNat, decide_true, decide_false, true_and, and_true, and_self, Bool.and_self, eint, imx, e3, h62, eT, tupleL]
    by_cases hf3 : f < 3
    · obtain ⟨x, d2, hx, ok2, e2⟩ := any_name_ok hws hpl ok1
      obtain ⟨v, d3, mn, ρ', hv, ok3, e3⟩ := rest d2 x _ ok2 hx
      refine ⟨v, d3, hv, ok3, ?_⟩
      simp (decide := true) -implicitDefEqProofs only [x_var, x_vi, x_vo, x_vp, x_c, x_rdi, x_rdo, x_rdr, x_rki, x_rko, x_rkp, x_opt, x_bin, x_bin1, x_bin2, x_bin3, x_un, x_un1, x_un2, x_frz, x_fzi, x_fzo, x_fzr, x_fki, x_fko, x_fzl, x_fzd, x_fzt, x_args, x_args1, x_args2, x_im0, x_im1, x_nil, x_cons, x_cons1, x_cons2, x_cons3, x_call, x_call1, x_call2, x_call3, x_call4, x_ta0, x_ta1, x_ta2, x_tk1, x_tk2, x_tk3, x_rf0, x_rf1, x_rf2, x_nd0, x_nd1, x_nd2, x_wb0, x_wb1, x_po0, x_po1, x_po2, x_w0, x_w1, x_w2, x_w3, x_wk1, x_wk2, x_tV, x_tV1, x_tr, x_tr1, x_tr2, x_tr3, x_not, x_not1, x_and, x_and1, x_and2, x_or, x_or1, x_or2, x_andV, x_andV1, x_andV2, x_orV, x_orV1, x_orV2, x_notV, x_notV1, x_if, x_if1, x_if2, x_pno, x_pat, x_pat1, x_slc, x_slc1, x_slc2, x_slc3, x_m1, x_m11, x_m12, x_isS, x_iof, x_iof1, x_iof2, x_itl, x_itt, x_its, x_rng, x_rng1, x_rng2, x_lc, x_lc1, x_lc2, x_tg1, x_wi0, x_wi1, x_re0, x_re1, x_gk, x_ia0, x_ia1, x_ii1, x_ii2, x_seq, x_seq1, x_seq2, x_seq3, x_seq4, x_seq5, x_pass, x_brk, x_cont, x_retN, x_nxK, x_put, x_pk1, x_pk2, x_pk3, x_set, x_set1, x_set2, x_set3, x_asg, x_asg1, x_setN, x_setTp, x_sts0, x_sts1, x_sts2, x_ifS, x_ifS1, x_ifS2, x_ret, x_ret1, x_ret2, x_exp, x_exp1, x_exp2, x_ow, x_ow1, x_ow2, x_rs, x_rs1, x_rs2, x_app, x_app1, x_app2, x_app3, x_sput, x_sput1, x_sput2, x_sput3, x_sput4, x_sput5, x_for, x_for1, x_run, x_fin1, x_fin2, x_fin3, x_fin4, x_fin5, x_rvi, x_rvo, x_rvr, x_rk1, x_rk2, x_ba0, x_ba1, x_ba2, x_se, x_si, x_sm, x_tupD, x_lstD, x_plusS, x_plusL, x_lenS, x_lenL, x_lenT, x_sub, x_lt, x_gt, x_le, x_ge, x_neg, x_revs, x_neB, x_eqB, x_tB, x_pkn, x_iin, x_slcS, x_slcL, x_slcT, x_memT, x_memL, x_yes, x_tms, x_mod, x_fdiv, x_sm62, x_big, x_bigL, x_par, x_par1, x_par2, x_enm, x_enm1, x_enm2, x_newT, Out.bind_ok, Out.bind_exc, Out.bind_fail, List.getElem?_cons_zero, List.getElem?_cons_succ, List.set_cons_zero, List.set_cons_succ, plusI, eqI, Option.map_some, Option.map_none, List.length_cons, List.length_nil, Nat.zero_add, Nat.add_zero, List.map_cons, List.map_nil, reduceIte, if_true, if_false, Nat.reduceAdd, Nat.reduceSub, Nat.reduceLeDiff, List.replicate_succ, List.replicate_zero, List.cons_append, List.nil_append, Bool.false_eq_true, Bool.not_true, Bool.not_false, List.getElem?_nil, Bool.and_true, Bool.true_and, bne_iff_ne, ne_eq, Nat.succ_ne_zero, not_false_eq_true, not_true_eq_false, reduceCtorEq, Nat.add_one_sub_one, eq_self, Int.reduceLT, Int.reduceLE, Int.reduceNeg, Int.reduceAdd, Int.reduceSub, Int.reduceMul, Int.reduceEq, Int.reduceBEq, Int.reduceBNe, Int.reduceMod, Int.reduceDiv, Nat.reduceEqDiff, Int.reduceToNat, decide_true, decide_false, true_and, and_true, and_self, Bool.and_self, e1, ef, hf3, e2]
      simp (decide := true) -implicitDefEqProofs only [x_var, x_vi, x_vo, x_vp, x_c, x_rdi, x_rdo, x_rdr, x_rki, x_rko, x_rkp, x_opt, x_bin, x_bin1, x_bin2, x_bin3, x_un, x_un1, x_un2, x_frz, x_fzi, x_fzo, x_fzr, x_fki, x_fko, x_fzl, x_fzd, x_fzt, x_args, x_args1, x_args2, x_im0, x_im1, x_nil, x_cons, x_cons1, x_cons2, x_cons3, x_call, x_call1, x_call2, x_call3, x_call4, x_ta0, x_ta1, x_ta2, x_tk1, x_tk2, x_tk3, x_rf0, x_rf1, x_rf2, x_nd0, x_nd1, x_nd2, x_wb0, x_wb1, x_po0, x_po1, x_po2, x_w0, x_w1, x_w2, x_w3, x_wk1, x_wk2, x_tV, x_tV1, x_tr, x_tr1, x_tr2, x_tr3, x_not, x_not1, x_and, x_and1, x_and2, x_or, x_or1, x_or2, x_andV, x_andV1, x_andV2, x_orV, x_orV1, x_orV2, x_notV, x_notV1, x_if, x_if1, x_if2, x_pno, x_pat, x_pat1, x_slc, x_slc1, x_slc2, x_slc3, x_m1, x_m11, x_m12, x_isS, x_iof, x_iof1, x_iof2, x_itl, x_itt, x_its, x_rng, x_rng1, x_rng2, x_lc, x_lc1, x_lc2, x_tg1, x_wi0, x_wi1, x_re0, x_re1, x_gk, x_ia0, x_ia1, x_ii1, x_ii2, x_seq, x_seq1, x_seq2, x_seq3, x_seq4, x_seq5, x_pass, x_brk, x_cont, x_retN, x_nxK, x_put, x_pk1, x_pk2, x_pk3, x_set, x_set1, x_set2, x_set3, x_asg, x_asg1, x_setN, x_setTp, x_sts0, x_sts1, x_sts2, x_ifS, x_ifS1, x_ifS2, x_ret, x_ret1, x_ret2, x_exp, x_exp1, x_exp2, x_ow, x_ow1, x_ow2, x_rs, x_rs1, x_rs2, x_app, x_app1, x_app2, x_app3, x_sput, x_sput1, x_sput2, x_sput3, x_sput4, x_sput5, x_for, x_for1, x_run, x_fin1, x_fin2, x_fin3, x_fin4, x_fin5, x_rvi, x_rvo, x_rvr, x_rk1, x_rk2, x_ba0, x_ba1, x_ba2, x_se, x_si, x_sm, x_tupD, x_lstD, x_plusS, x_plusL, x_lenS, x_lenL, x_lenT, x_sub, x_lt, x_gt, x_le, x_ge, x_neg, x_revs, x_neB, x_eqB, x_tB, x_pkn, x_iin, x_slcS, x_slcL, x_slcT, x_memT, x_memL, x_yes, x_tms, x_mod, x_fdiv, x_sm62, x_big, x_bigL, x_par, x_par1, x_par2, x_enm, x_enm1, x_enm2, x_newT, Out.bind_ok, Out.bind_exc, Out.bind_fail, List.getElem?_cons_zero, List.getElem?_cons_succ, List.set_cons_zero, List.set_cons_succ, plusI, eqI, Option.map_some, Option.map_none, List.length_cons, List.length_nil, Nat.zero_add, Nat.add_zero, List.map_cons, List.map_nil, reduceIte, if_true, if_false, Nat.reduceAdd, Nat.reduceSub, Nat.reduceLeDiff, List.replicate_succ, List.replicate_zero, List.cons_append, List.nil_append, Bool.false_eq_true, Bool.not_true, Bool.not_false, List.getElem?_nil, Bool.and_true, Bool.true_and, bne_iff_ne, ne_eq, Nat.succ_ne_zero, not_false_eq_true, not_true_eq_false, reduceCtorEq, Nat.add_one_sub_one, eq_self, Int.reduceLT, Int.reduceLE, Int.reduceNeg, Int.reduceAdd, Int.reduceSub, Int.reduceMul, Int.reduceEq, Int.reduceBEq, Int.reduceBNe, Int.reduceMod, Int.reduceDiv, Nat.reduceEqDiff, Int.reduceToNat, decide_true, decide_false, true_and, and_true, and_self, Bool.and_self] at e3
      rw [e3]
      simp (decide := true) -implicitDefEqProofs only [x_var, x_vi, x_vo, x_vp, x_c, x_rdi, x_rdo, x_rdr, x_rki, x_rko, x_rkp, x_opt, x_bin, x_bin1, x_bin2, x_bin3, x_un, x_un1, x_un2, x_frz, x_fzi, x_fzo, x_fzr, x_fki, x_fko, x_fzl, x_fzd, x_fzt, x_args, x_args1, x_args2, x_im0, x_im1, x_nil, x_cons, x_cons1, x_cons2, x_cons3, x_call, x_call1, x_call2, x_call3, x_call4, x_ta0, x_ta1, x_ta2, x_tk1, x_tk2, x_tk3, x_rf0, x_rf1, x_rf2, x_nd0, x_nd1, x_nd2, x_wb0, x_wb1, x_po0, x_po1, x_po2, x_w0, x_w1, x_w2, x_w3, x_wk1, x_wk2, x_tV, x_tV1, x_tr, x_tr1, x_tr2, x_tr3, x_not, x_not1, x_and, x_and1, x_and2, x_or, x_or1, x_or2, x_andV, x_andV1, x_andV2, x_orV, x_orV1, x_orV2, x_notV, x_notV1, x_if, x_if1, x_if2, x_pno, x_pat, x_pat1, x_slc, x_slc1, x_slc2, x_slc3, x_m1, x_m11, x_m12, x_isS, x_iof, x_iof1, x_iof2, x_itl, x_itt, x_its, x_rng, x_rng1, x_rng2, x_lc, x_lc1, x_lc2, x_tg1, x_wi0, x_wi1, x_re0, x_re1, x_gk, x_ia0, x_ia1, x_ii1, x_ii2, x_seq, x_seq1, x_seq2, x_seq3, x_seq4, x_seq5, x_pass, x_brk, x_cont, x_retN, x_nxK, x_put, x_pk1, x_pk2, x_pk3, x_set, x_set1, x_set2, x_set3, x_asg, x_asg1, x_setN, x_setTp, x_sts0, x_sts1, x_sts2, x_ifS, x_ifS1, x_ifS2, x_ret, x_ret1, x_ret2, x_exp, x_exp1, x_exp2, x_ow, x_ow1, x_ow2, x_rs, x_rs1, x_rs2, x_app, x_app1, x_app2, x_app3, x_sput, x_sput1, x_sput2, x_sput3, x_sput4, x_sput5, x_for, x_for1, x_run, x_fin1, x_fin2, x_fin3, x_fin4, x_fin5, x_rvi, x_rvo, x_rvr, x_rk1, x_rk2, x_ba0, x_ba1, x_ba2, x_se, x_si, x_sm, x_tupD, x_lstD, x_plusS, x_plusL, x_lenS, x_lenL, x_lenT, x_sub, x_lt, x_gt, x_le, x_ge, x_neg, x_revs, x_neB, x_eqB, x_tB, x_pkn, x_iin, x_slcS, x_slcL, x_slcT, x_memT, x_memL, x_yes, x_tms, x_mod, x_fdiv, x_sm62, x_big, x_bigL, x_par, x_par1, x_par2, x_enm, x_enm1, x_enm2, x_newT, Out.bind_ok, Out.bind_exc, Out.bind_fail, List.getElem?_cons_zero, List.getElem?_cons_succ, List.set_cons_zero, List.set_cons_succ, plusI, eqI, Option.map_some, Option.map_none, List.length_cons, List.length_nil, Nat.zero_add, Nat.add_zero, List.map_cons, List.map_nil, reduceIte, if_true, if_false, Nat.reduceAdd, Nat.reduceSub, Nat.reduceLeDiff, List.replicate_succ, List.replicate_zero, List.cons_append, List.nil_append, Bool.false_eq_true, Bool.not_true, Bool.not_false, List.getElem?_nil, Bool.and_true, Bool.true_and, bne_iff_ne, ne_eq, Nat.succ_ne_zero, not_false_eq_true, not_true_eq_false, reduceCtorEq, Nat.add_one_sub_one, eq_self, Int.reduceLT, Int.reduceLE, Int.reduceNeg, Int.reduceAdd, Int.reduceSub, Int.reduceMul, Int.reduceEq, Int.reduceBEq, Int.reduceBNe, Int.reduceMod, Int.reduceDiv, Nat.reduceEqDiff, Int.reduceToNat, decide_true, decide_false, true_and, and_true, and_self, Bool.and_self]
    · obtain ⟨k, d2, b0, b1, ok2, e2⟩ := drw (ws.length : Int) ok1 (by omega) (by omega)
      have l1 : ((ws.map D.str).length : Int) = (ws.length : Int) := by rw [List.length_map]
      obtain ⟨s, es⟩ := idxS (l := ws) b0 b1
      obtain ⟨v, d3, mn, ρ', hv, ok3, e3⟩ := rest d2 (.str s) [109, 97, 100, 101] ok2 (.s s)
      refine ⟨v, d3, hv, ok3, ?_⟩
      simp (decide := true) -implicitDefEqProofs only [x_var, x_vi, x_vo, x_vp, x_c, x_rdi, x_rdo, x_rdr, x_rki, x_rko, x_rkp, x_opt, x_bin, x_bin1, x_bin2, x_bin3, x_un, x_un1, x_un2, x_frz, x_fzi, x_fzo, x_fzr, x_fki, x_fko, x_fzl, x_fzd, x_fzt, x_args, x_args1, x_args2, x_im0, x_im1, x_nil, x_cons, x_cons1, x_cons2, x_cons3, x_call, x_call1, x_call2, x_call3, x_call4, x_ta0, x_ta1, x_ta2, x_tk1, x_tk2, x_tk3, x_rf0, x_rf1, x_rf2, x_nd0, x_nd1, x_nd2, x_wb0, x_wb1, x_po0, x_po1, x_po2, x_w0, x_w1, x_w2, x_w3, x_wk1, x_wk2, x_tV, x_tV1, x_tr, x_tr1, x_tr2, x_tr3, x_not, x_not1, x_and, x_and1, x_and2, x_or, x_or1, x_or2, x_andV, x_andV1, x_andV2, x_orV, x_orV1, x_orV2, x_notV, x_notV1, x_if, x_if1, x_if2, x_pno, x_pat, x_pat1, x_slc, x_slc1, x_slc2, x_slc3, x_m1, x_m11, x_m12, x_isS, x_iof, x_iof1, x_iof2, x_itl, x_itt, x_its, x_rng, x_rng1, x_rng2, x_lc, x_lc1, x_lc2, x_tg1, x_wi0, x_wi1, x_re0, x_re1, x_gk, x_ia0, x_ia1, x_ii1, x_ii2, x_seq, x_seq1, x_seq2, x_seq3, x_seq4, x_seq5, x_pass, x_brk, x_cont, x_retN, x_nxK, x_put, x_pk1, x_pk2, x_pk3, x_set, x_set1, x_set2, x_set3, x_asg, x_asg1, x_setN, x_setTp, x_sts0, x_sts1, x_sts2, x_ifS, x_ifS1, x_ifS2, x_ret, x_ret1, x_ret2, x_exp, x_exp1, x_exp2, x_ow, x_ow1, x_ow2, x_rs, x_rs1, x_rs2, x_app, x_app1, x_app2, x_app3, x_sput, x_sput1, x_sput2, x_sput3, x_sput4, x_sput5, x_for, x_for1, x_run, x_fin1, x_fin2, x_fin3, x_fin4, x_fin5, x_rvi, x_rvo, x_rvr, x_rk1, x_rk2, x_ba0, x_ba1, x_ba2, x_se, x_si, x_sm, x_tupD, x_lstD, x_plusS, x_plusL, x_lenS, x_lenL, x_lenT, x_sub, x_lt, x_gt, x_le, x_ge, x_neg, x_revs, x_neB, x_eqB, x_tB, x_pkn, x_iin, x_slcS, x_slcL, x_slcT, x_memT, x_memL, x_yes, x_tms, x_mod, x_fdiv, x_sm62, x_big, x_bigL, x_par, x_par1, x_par2, x_enm, x_enm1, x_enm2, x_newT, Out.bind_ok, Out.bind_exc, Out.bind_fail, List.getElem?_cons_zero, List.getElem?_cons_succ, List.set_cons_zero, List.set_cons_succ, plusI, eqI, Option.map_some, Option.map_none, List.length_cons, List.length_nil, Nat.zero_add, Nat.add_zero, List.map_cons, List.map_nil, reduceIte, if_true, if_false, Nat.reduceAdd, Nat.reduceSub, Nat.reduceLeDiff, List.replicate_succ, List.replicate_zero, List.cons_append, List.nil_append, Bool.false_eq_true, Bool.not_true, Bool.not_false, List.getElem?_nil, Bool.and_true, Bool.true_and, bne_iff_ne, ne_eq, Nat.succ_ne_zero, not_false_eq_true, not_true_eq_false, reduceCtorEq, Nat.add_one_sub_one, eq_self, Int.reduceLT, Int.reduceLE, Int.reduceNeg, Int.reduceAdd, Int.reduceSub, Int.reduceMul, Int.reduceEq, Int.reduceBEq, Int.reduceBNe, Int.reduceMod, Int.reduceDiv, Nat.reduceEqDiff, Int.reduceToNat, decide_true, decide_false, true_and, and_true, and_self, Bool.and_self, e1, ef, hf3, l1, e2, es]
      simp (decide := true) -implicitDefEqProofs only [x_var, x_vi, x_vo, x_vp, x_c, x_rdi, x_rdo, x_rdr, x_rki, x_rko, x_rkp, x_opt, x_bin, x_bin1, x_bin2, x_bin3, x_un, x_un1, x_un2, x_frz, x_fzi, x_fzo, x_fzr, x_fki, x_fko, x_fzl, x_fzd, x_fzt, x_args, x_args1, x_args2, x_im0, x_im1, x_nil, x_cons, x_cons1, x_cons2, x_cons3, x_call, x_call1, x_call2, x_call3, x_call4, x_ta0, x_ta1, x_ta2, x_tk1, x_tk2, x_tk3, x_rf0, x_rf1, x_rf2, x_nd0, x_nd1, x_nd2, x_wb0, x_wb1, x_po0, x_po1, x_po2, x_w0, x_w1, x_w2, x_w3, x_wk1, x_wk2, x_tV, x_tV1, x_tr, x_tr1, x_tr2, x_tr3, x_not, x_not1, x_and, x_and1, x_and2, x_or, x_or1, x_or2, x_andV, x_andV1, x_andV2, x_orV, x_orV1, x_orV2, x_notV, x_notV1, x_if, x_if1, x_if2, x_pno, x_pat, x_pat1, x_slc, x_slc1, x_slc2, x_slc3, x_m1, x_m11, x_m12, x_isS, x_iof, x_iof1, x_iof2, x_itl, x_itt, x_its, x_rng, x_rng1, x_rng2, x_lc, x_lc1, x_lc2, x_tg1, x_wi0, x_wi1, x_re0, x_re1, x_gk, x_ia0, x_ia1, x_ii1, x_ii2, x_seq, x_seq1, x_seq2, x_seq3, x_seq4, x_seq5, x_pass, x_brk, x_cont, x_retN, x_nxK, x_put, x_pk1, x_pk2, x_pk3, x_set, x_set1, x_set2, x_set3, x_asg, x_asg1, x_setN, x_setTp, x_sts0, x_sts1, x_sts2, x_ifS, x_ifS1, x_ifS2, x_ret, x_ret1, x_ret2, x_exp, x_exp1, x_exp2, x_ow, x_ow1, x_ow2, x_rs, x_rs1, x_rs2, x_app, x_app1, x_app2, x_app3, x_sput, x_sput1, x_sput2, x_sput3, x_sput4, x_sput5, x_for, x_for1, x_run, x_fin1, x_fin2, x_fin3, x_fin4, x_fin5, x_rvi, x_rvo, x_rvr, x_rk1, x_rk2, x_ba0, x_ba1, x_ba2, x_se, x_si, x_sm, x_tupD, x_lstD, x_plusS, x_plusL, x_lenS, x_lenL, x_lenT, x_sub, x_lt, x_gt, x_le, x_ge, x_neg, x_revs, x_neB, x_eqB, x_tB, x_pkn, x_iin, x_slcS, x_slcL, x_slcT, x_memT, x_memL, x_yes, x_tms, x_mod, x_fdiv, x_sm62, x_big, x_bigL, x_par, x_par1, x_par2, x_enm, x_enm1, x_enm2, x_newT, Out.bind_ok, Out.bind_exc, Out.bind_fail, List.getElem?_cons_zero, List.getElem?_cons_succ, List.set_cons_zero, List.set_cons_succ, plusI, eqI, Option.map_some, Option.map_none, List.length_cons, List.length_nil, Nat.zero_add, Nat.add_zero, List.map_cons, List.map_nil, reduceIte, if_true, if_false, Nat.reduceAdd, Nat.reduceSub, Nat.reduceLeDiff, List.replicate_succ, List.replicate_zero, List.cons_append, List.nil_append, Bool.false_eq_true, Bool.not_true, Bool.not_false, List.getElem?_nil, Bool.and_true, Bool.true_and, bne_iff_ne, ne_eq, Nat.succ_ne_zero, not_false_eq_true, not_true_eq_false, reduceCtorEq, Nat.add_one_sub_one, eq_self, Int.reduceLT, Int.reduceLE, Int.reduceNeg, Int.reduceAdd, Int.reduceSub, Int.reduceMul, Int.reduceEq, Int.reduceBEq, Int.reduceBNe, Int.reduceMod, Int.reduceDiv, Nat.reduceEqDiff, Int.reduceToNat, decide_true, decide_false, true_and, and_true, and_self, Bool.and_self] at e3
      rw [e3]
      simp (decide := true) -implicitDefEqProofs only [x_var, x_vi, x_vo, x_vp, x_c, x_rdi, x_rdo, x_rdr, x_rki, x_rko, x_rkp, x_opt, x_bin, x_bin1, x_bin2, x_bin3, x_un, x_un1, x_un2, x_frz, x_fzi, x_fzo, x_fzr, x_fki, x_fko, x_fzl, x_fzd, x_fzt, x_args, x_args1, x_args2, x_im0, x_im1, x_nil, x_cons, x_cons1, x_cons2, x_cons3, x_call, x_call1, x_call2, x_call3, x_call4, x_ta0, x_ta1, x_ta2, x_tk1, x_tk2, x_tk3, x_rf0, x_rf1, x_rf2, x_nd0, x_nd1, x_nd2, x_wb0, x_wb1, x_po0, x_po1, x_po2, x_w0, x_w1, x_w2, x_w3, x_wk1, x_wk2, x_tV, x_tV1, x_tr, x_tr1, x_tr2, x_tr3, x_not, x_not1, x_and, x_and1, x_and2, x_or, x_or1, x_or2, x_andV, x_andV1, x_andV2, x_orV, x_orV1, x_orV2, x_notV, x_notV1, x_if, x_if1, x_if2, x_pno, x_pat, x_pat1, x_slc, x_slc1, x_slc2, x_slc3, x_m1, x_m11, x_m12, x_isS, x_iof, x_iof1, x_iof2, x_itl, x_itt, x_its, x_rng, x_rng1, x_rng2, x_lc, x_lc1, x_lc2, x_tg1, x_wi0, x_wi1, x_re0, x_re1, x_gk, x_ia0, x_ia1, x_ii1, x_ii2, x_seq, x_seq1, x_seq2, x_seq3, x_seq4, x_seq5, x_pass, x_brk, x_cont, x_retN, x_nxK, x_put, x_pk1, x_pk2, x_pk3, x_set, x_set1, x_set2, x_set3, x_asg, x_asg1, x_setN, x_setTp, x_sts0, x_sts1, x_sts2, x_ifS, x_ifS1, x_ifS2, x_ret, x_ret1, x_ret2, x_exp, x_exp1, x_exp2, x_ow, x_ow1, x_ow2, x_rs, x_rs1, x_rs2, x_app, x_app1, x_app2, x_app3, x_sput, x_sput1, x_sput2, x_sput3, x_sput4, x_sput5, x_for, x_for1, x_run, x_fin1, x_fin2, x_fin3, x_fin4, x_fin5, x_rvi, x_rvo, x_rvr, x_rk1, x_rk2, x_ba0, x_ba1, x_ba2, x_se, x_si, x_sm, x_tupD, x_lstD, x_plusS, x_plusL, x_lenS, x_lenL, x_lenT, x_sub, x_lt, x_gt, x_le, x_ge, x_neg, x_revs, x_neB, x_eqB, x_tB, x_pkn, x_iin, x_slcS, x_slcL, x_slcT, x_memT, x_memL, x_yes, x_tms, x_mod, x_fdiv, x_sm62, x_big, x_bigL, x_par, x_par1, x_par2, x_enm, x_enm1, x_enm2, x_newT, Out.bind_ok, Out.bind_exc, Out.bind_fail, List.getElem?_cons_zero, List.getElem?_cons_succ, List.set_cons_zero, List.set_cons_succ, plusI, eqI, Option.map_some, Option.map_none, List.length_cons, List.length_nil, Nat.zero_add, Nat.add_zero, List.map_cons, List.map_nil, reduceIte, if_true, if_false, Nat.reduceAdd, Nat.reduceSub, Nat.reduceLeDiff, List.replicate_succ, List.replicate_zero, List.cons_append, List.nil_append, Bool.false_eq_true, Bool.not_true, Bool.not_false, List.getElem?_nil, Bool.and_true, Bool.true_and, bne_iff_ne, ne_eq, Nat.succ_ne_zero, not_false_eq_true, not_true_eq_false, reduceCtorEq, Nat.add_one_sub_one, eq_self, Int.reduceLT, Int.reduceLE, Int.reduceNeg, Int.reduceAdd, Int.reduceSub, Int.reduceMul, Int.reduceEq, Int.reduceBEq, Int.reduceBNe, Int.reduceMod, Int.reduceDiv, Nat.reduceEqDiff, Int.reduceToNat, decide_true, decide_false, true_and, and_true, and_self, Bool.and_self]
theorem any_all : ∀ (n m : Nat), n < m → n ≤ 1000 → ∀ (d : D) (room : Int), dealOk d → 0 ≤ room → room ≤ n → ∃ v d', vOk pl (n + 1) v ∧ dealOk d' ∧ r__law_any_value m [.mt d, .imm (Wl ws), .imm (Pl pl), .imm (.int room)] = .ret (.imm v) [.mt d', .imm (Wl ws), .imm (Pl pl), .imm (.int room)]
  | n, 0, h, _, _, _, _, _, _ => absurd h (Nat.not_lt_zero _)
  | 0, m + 1, _, _, d, room, ok, h0, h1 => any_step hws hpl (P := vOk pl 0) h0 (by omega) (fun h => by omega) ok
  | n + 1, m + 1, h, hn, d, room, ok, h0, h1 => any_step hws hpl (P := vOk pl (n + 1)) h0 (by omega) (fun h2 d r' okd q0 q1 => any_all n m (Nat.lt_of_succ_lt_succ h) (by omega) d r' okd q0 (by omega)) ok
theorem any_end_ok {d : D} (ok : dealOk d) : ∃ e d', En pl e ∧ dealOk d' ∧ g__law_any_end [.mt d, .imm (Wl ws), .imm (Pl pl)] = .ret (.imm e) [.mt d', .imm (Wl ws), .imm (Pl pl)] := by
  obtain ⟨f, d1, a0, a1, ok1, e1⟩ := drw (5 : Int) ok (by decide) (by decide)
  show ∃ x d', _ ∧ _ ∧ runG 3 4 b__law_any_end _ = _
  unfold b__law_any_end
  have hf : f = 0 ∨ f = 1 ∨ f = 2 ∨ f = 3 ∨ f = 4 := by omega
  have last : ∀ f : Int, f = 3 ∨ f = 4 → g__law_draw [.mt d, .imm (.int 5)] = .ret (.imm (.int f)) [.mt d1, .imm (.int 5)] → ∃ x d', En pl x ∧ dealOk d' ∧ runG 3 4 (sSeq (sSet 3 (eCall g__law_draw (aCons (eVar 0) (aCons (eC (.int 5)) aNil))))
    (sSeq (sIf (tV (eBin eqD (eVar 3) (eC (.int 0)))) (sRet (eBin idxD (eArgs lstD (aCons (eC .non) (aCons (eArgs tupD (aCons (eC (.str [108, 97, 116, 101])) aNil)) aNil))) (eCall g__law_draw (aCons (eVar 0) (aCons (eC (.int 2)) aNil))))) sPass)
    (sSeq (sIf (tV (eBin eqD (eVar 3) (eC (.int 1)))) (sRet (eArgs tupD (aCons (eC (.str [103, 114, 101, 97, 116])) (aCons (eFrz (eCall g__law_any_name (aCons (eVar 0) (aCons (eFrz (eVar 1)) (aCons (eFrz (eVar 2)) aNil))))) aNil)))) sPass)
    (sSeq (sIf (tV (eBin eqD (eVar 3) (eC (.int 2)))) (sRet (eArgs tupD (aCons (eC (.str [102, 97, 117, 108, 116])) (aCons (eFrz (eCall g__law_any_name (aCons (eVar 0) (aCons (eFrz (eVar 1)) (aCons (eFrz (eVar 2)) aNil))))) (aCons (eFrz (eCall g__law_any_name (aCons (eVar 0) (aCons (eFrz (eVar 1)) (aCons (eFrz (eVar 2)) aNil))))) aNil))))) sPass)
    (sRet (eArgs tupD (aCons (eC (.str [97, 110, 115, 119, 101, 114])) (aCons (eFrz (eCall g__law_any_value (aCons (eVar 0) (aCons (eFrz (eVar 1)) (aCons (eFrz (eVar 2)) (aCons (eC (.int 30)) aNil)))))) aNil)))))))) [.mt d, .imm (Wl ws), .imm (Pl pl)] = .ret (.imm x) [.mt d', .imm (Wl ws), .imm (Pl pl)] := by
    intro f hf e1
    obtain ⟨v, d2, hv, ok2, e2⟩ := any_all hws hpl 30 40 (by decide) (by decide) d1 30 ok1 (by decide) (by decide)
    have e2' : g__law_any_value [.mt d1, .imm (Wl ws), .imm (Pl pl), .imm (.int 30)] = .ret (.imm v) [.mt d2, .imm (Wl ws), .imm (Pl pl), .imm (.int 30)] := e2
    refine ⟨_, d2, .answer v hv, ok2, ?_⟩
    rcases hf with rfl | rfl <;> simp (decide := true) -implicitDefEqProofs only [x_var, x_vi, x_vo, x_vp, x_c, x_rdi, x_rdo, x_rdr, x_rki, x_rko, x_rkp, x_opt, x_bin, x_bin1, x_bin2, x_bin3, x_un, x_un1, x_un2, x_frz, x_fzi, x_fzo, x_fzr, x_fki, x_fko, x_fzl, x_fzd, x_fzt, x_args, x_args1, x_args2, x_im0, x_im1, x_nil, x_cons, x_cons1, x_cons2, x_cons3, x_call, x_call1, x_call2, x_call3, x_call4, x_ta0, x_ta1, x_ta2, x_tk1, x_tk2, x_tk3, x_rf0, x_rf1, x_rf2, x_nd0, x_nd1, x_nd2, x_wb0, x_wb1, x_po0, x_po1, x_po2, x_w0, x_w1, x_w2, x_w3, x_wk1, x_wk2, x_tV, x_tV1, x_tr, x_tr1, x_tr2, x_tr3, x_not, x_not1, x_and, x_and1, x_and2, x_or, x_or1, x_or2, x_andV, x_andV1, x_andV2, x_orV, x_orV1, x_orV2, x_notV, x_notV1, x_if, x_if1, x_if2, x_pno, x_pat, x_pat1, x_slc, x_slc1, x_slc2, x_slc3, x_m1, x_m11, x_m12, x_isS, x_iof, x_iof1, x_iof2, x_itl, x_itt, x_its, x_rng, x_rng1, x_rng2, x_lc, x_lc1, x_lc2, x_tg1, x_wi0, x_wi1, x_re0, x_re1, x_gk, x_ia0, x_ia1, x_ii1, x_ii2, x_seq, x_seq1, x_seq2, x_seq3, x_seq4, x_seq5, x_pass, x_brk, x_cont, x_retN, x_nxK, x_put, x_pk1, x_pk2, x_pk3, x_set, x_set1, x_set2, x_set3, x_asg, x_asg1, x_setN, x_setTp, x_sts0, x_sts1, x_sts2, x_ifS, x_ifS1, x_ifS2, x_ret, x_ret1, x_ret2, x_exp, x_exp1, x_exp2, x_ow, x_ow1, x_ow2, x_rs, x_rs1, x_rs2, x_app, x_app1, x_app2, x_app3, x_sput, x_sput1, x_sput2, x_sput3, x_sput4, x_sput5, x_for, x_for1, x_run, x_fin1, x_fin2, x_fin3, x_fin4, x_fin5, x_rvi, x_rvo, x_rvr, x_rk1, x_rk2, x_ba0, x_ba1, x_ba2, x_se, x_si, x_sm, x_tupD, x_lstD, x_plusS, x_plusL, x_lenS, x_lenL, x_lenT, x_sub, x_lt, x_gt, x_le, x_ge, x_neg, x_revs, x_neB, x_eqB, x_tB, x_pkn, x_iin, x_slcS, x_slcL, x_slcT, x_memT, x_memL, x_yes, x_tms, x_mod, x_fdiv, x_sm62, x_big, x_bigL, x_par, x_par1, x_par2, x_enm, x_enm1, x_enm2, x_newT, Out.bind_ok, Out.bind_exc, Out.bind_fail, List.getElem?_cons_zero, List.getElem?_cons_succ, List.set_cons_zero, List.set_cons_succ, plusI, eqI, Option.map_some, Option.map_none, List.length_cons, List.length_nil, Nat.zero_add, Nat.add_zero, List.map_cons, List.map_nil, reduceIte, if_true, if_false, Nat.reduceAdd, Nat.reduceSub, Nat.reduceLeDiff, List.replicate_succ, List.replicate_zero, List.cons_append, List.nil_append, Bool.false_eq_true, Bool.not_true, Bool.not_false, List.getElem?_nil, Bool.and_true, Bool.true_and, bne_iff_ne, ne_eq, Nat.succ_ne_zero, not_false_eq_true, not_true_eq_false, reduceCtorEq, Nat.add_one_sub_one, eq_self, Int.reduceLT, Int.reduceLE, Int.reduceNeg, Int.reduceAdd, Int.reduceSub, Int.reduceMul, Int.reduceEq, Int.reduceBEq, Int.reduceBNe, Int.reduceMod, Int.reduceDiv, Nat.reduceEqDiff, Int.reduceToNat, decide_true, decide_false, true_and, and_true, and_self, Bool.and_self, e1, e2']
  rcases hf with rfl | rfl | rfl | rfl | rfl
  · obtain ⟨r, d2, b0, b1, ok2, e2⟩ := drw (2 : Int) ok1 (by decide) (by decide)
    have hr : r = 0 ∨ r = 1 := by omega
    rcases hr with rfl | rfl
    · refine ⟨.non, d2, .no, ok2, ?_⟩
      have ei : ∀ x : D, idxD (.lst [.non, x]) (.int 0) = some (.imm .non) := fun x => rfl
      simp (decide := true) -implicitDefEqProofs only [x_var, x_vi, x_vo, x_vp, x_c, x_rdi, x_rdo, x_rdr, x_rki, x_rko, x_rkp, x_opt, x_bin, x_bin1, x_bin2, x_bin3, x_un, x_un1, x_un2, x_frz, x_fzi, x_fzo, x_fzr, x_fki, x_fko, x_fzl, x_fzd, x_fzt, x_args, x_args1, x_args2, x_im0, x_im1, x_nil, x_cons, x_cons1, x_cons2, x_cons3, x_call, x_call1, x_call2, x_call3, x_call4, x_ta0, x_ta1, x_ta2, x_tk1, x_tk2, x_tk3, x_rf0, x_rf1, x_rf2, x_nd0, x_nd1, x_nd2, x_wb0, x_wb1, x_po0, x_po1, x_po2, x_w0, x_w1, x_w2, x_w3, x_wk1, x_wk2, x_tV, x_tV1, x_tr, x_tr1, x_tr2, x_tr3, x_not, x_not1, x_and, x_and1, x_and2, x_or, x_or1, x_or2, x_andV, x_andV1, x_andV2, x_orV, x_orV1, x_orV2, x_notV, x_notV1, x_if, x_if1, x_if2, x_pno, x_pat, x_pat1, x_slc, x_slc1, x_slc2, x_slc3, x_m1, x_m11, x_m12, x_isS, x_iof, x_iof1, x_iof2, x_itl, x_itt, x_its, x_rng, x_rng1, x_rng2, x_lc, x_lc1, x_lc2, x_tg1, x_wi0, x_wi1, x_re0, x_re1, x_gk, x_ia0, x_ia1, x_ii1, x_ii2, x_seq, x_seq1, x_seq2, x_seq3, x_seq4, x_seq5, x_pass, x_brk, x_cont, x_retN, x_nxK, x_put, x_pk1, x_pk2, x_pk3, x_set, x_set1, x_set2, x_set3, x_asg, x_asg1, x_setN, x_setTp, x_sts0, x_sts1, x_sts2, x_ifS, x_ifS1, x_ifS2, x_ret, x_ret1, x_ret2, x_exp, x_exp1, x_exp2, x_ow, x_ow1, x_ow2, x_rs, x_rs1, x_rs2, x_app, x_app1, x_app2, x_app3, x_sput, x_sput1, x_sput2, x_sput3, x_sput4, x_sput5, x_for, x_for1, x_run, x_fin1, x_fin2, x_fin3, x_fin4, x_fin5, x_rvi, x_rvo, x_rvr, x_rk1, x_rk2, x_ba0, x_ba1, x_ba2, x_se, x_si, x_sm, x_tupD, x_lstD, x_plusS, x_plusL, x_lenS, x_lenL, x_lenT, x_sub, x_lt, x_gt, x_le, x_ge, x_neg, x_revs, x_neB, x_eqB, x_tB, x_pkn, x_iin, x_slcS, x_slcL, x_slcT, x_memT, x_memL, x_yes, x_tms, x_mod, x_fdiv, x_sm62, x_big, x_bigL, x_par, x_par1, x_par2, x_enm, x_enm1, x_enm2, x_newT, Out.bind_ok, Out.bind_exc, Out.bind_fail, List.getElem?_cons_zero, List.getElem?_cons_succ, List.set_cons_zero, List.set_cons_succ, plusI, eqI, Option.map_some, Option.map_none, List.length_cons, List.length_nil, Nat.zero_add, Nat.add_zero, List.map_cons, List.map_nil, reduceIte, if_true, if_false, Nat.reduceAdd, Nat.reduceSub, Nat.reduceLeDiff, List.replicate_succ, List.replicate_zero, List.cons_append, List.nil_append, Bool.false_eq_true, Bool.not_true, Bool.not_false, List.getElem?_nil, Bool.and_true, Bool.true_and, bne_iff_ne, ne_eq, Nat.succ_ne_zero, not_false_eq_true, not_true_eq_false, reduceCtorEq, Nat.add_one_sub_one, eq_self, Int.reduceLT, Int.reduceLE, Int.reduceNeg, Int.reduceAdd, Int.reduceSub, Int.reduceMul, Int.reduceEq, Int.reduceBEq, Int.reduceBNe, Int.reduceMod, Int.reduceDiv, Nat.reduceEqDiff, Int.reduceToNat, decide_true, decide_false, true_and, and_true, and_self, Bool.and_self, e1, e2, ei]
    · refine ⟨_, d2, .late, ok2, ?_⟩
      have ei : ∀ x : D, idxD (.lst [.non, x]) (.int 1) = some (.imm x) := fun x => rfl
      simp (decide := true) -implicitDefEqProofs only [x_var, x_vi, x_vo, x_vp, x_c, x_rdi, x_rdo, x_rdr, x_rki, x_rko, x_rkp, x_opt, x_bin, x_bin1, x_bin2, x_bin3, x_un, x_un1, x_un2, x_frz, x_fzi, x_fzo, x_fzr, x_fki, x_fko, x_fzl, x_fzd, x_fzt, x_args, x_args1, x_args2, x_im0, x_im1, x_nil, x_cons, x_cons1, x_cons2, x_cons3, x_call, x_call1, x_call2, x_call3, x_call4, x_ta0, x_ta1, x_ta2, x_tk1, x_tk2, x_tk3, x_rf0, x_rf1, x_rf2, x_nd0, x_nd1, x_nd2, x_wb0, x_wb1, x_po0, x_po1, x_po2, x_w0, x_w1, x_w2, x_w3, x_wk1, x_wk2, x_tV, x_tV1, x_tr, x_tr1, x_tr2, x_tr3, x_not, x_not1, x_and, x_and1, x_and2, x_or, x_or1, x_or2, x_andV, x_andV1, x_andV2, x_orV, x_orV1, x_orV2, x_notV, x_notV1, x_if, x_if1, x_if2, x_pno, x_pat, x_pat1, x_slc, x_slc1, x_slc2, x_slc3, x_m1, x_m11, x_m12, x_isS, x_iof, x_iof1, x_iof2, x_itl, x_itt, x_its, x_rng, x_rng1, x_rng2, x_lc, x_lc1, x_lc2, x_tg1, x_wi0, x_wi1, x_re0, x_re1, x_gk, x_ia0, x_ia1, x_ii1, x_ii2, x_seq, x_seq1, x_seq2, x_seq3, x_seq4, x_seq5, x_pass, x_brk, x_cont, x_retN, x_nxK, x_put, x_pk1, x_pk2, x_pk3, x_set, x_set1, x_set2, x_set3, x_asg, x_asg1, x_setN, x_setTp, x_sts0, x_sts1, x_sts2, x_ifS, x_ifS1, x_ifS2, x_ret, x_ret1, x_ret2, x_exp, x_exp1, x_exp2, x_ow, x_ow1, x_ow2, x_rs, x_rs1, x_rs2, x_app, x_app1, x_app2, x_app3, x_sput, x_sput1, x_sput2, x_sput3, x_sput4, x_sput5, x_for, x_for1, x_run, x_fin1, x_fin2, x_fin3, x_fin4, x_fin5, x_rvi, x_rvo, x_rvr, x_rk1, x_rk2, x_ba0, x_ba1, x_ba2, x_se, x_si, x_sm, x_tupD, x_lstD, x_plusS, x_plusL, x_lenS, x_lenL, x_lenT, x_sub, x_lt, x_gt, x_le, x_ge, x_neg, x_revs, x_neB, x_eqB, x_tB, x_pkn, x_iin, x_slcS, x_slcL, x_slcT, x_memT, x_memL, x_yes, x_tms, x_mod, x_fdiv, x_sm62, x_big, x_bigL, x_par, x_par1, x_par2, x_enm, x_enm1, x_enm2, x_newT, Out.bind_ok, Out.bind_exc, Out.bind_fail, List.getElem?_cons_zero, List.getElem?_cons_succ, List.set_cons_zero, List.set_cons_succ, plusI, eqI, Option.map_some, Option.map_none, List.length_cons, List.length_nil, Nat.zero_add, Nat.add_zero, List.map_cons, List.map_nil, reduceIte, if_true, if_false, Nat.reduceAdd, Nat.reduceSub, Nat.reduceLeDiff, List.replicate_succ, List.replicate_zero, List.cons_append, List.nil_append, Bool.false_eq_true, Bool.not_true, Bool.not_false, List.getElem?_nil, Bool.and_true, Bool.true_and, bne_iff_ne, ne_eq, Nat.succ_ne_zero, not_false_eq_true, not_true_eq_false, reduceCtorEq, Nat.add_one_sub_one, eq_self, Int.reduceLT, Int.reduceLE, Int.reduceNeg, Int.reduceAdd, Int.reduceSub, Int.reduceMul, Int.reduceEq, Int.reduceBEq, Int.reduceBNe, Int.reduceMod, Int.reduceDiv, Nat.reduceEqDiff, Int.reduceToNat, decide_true, decide_false, true_and, and_true, and_self, Bool.and_self, e1, e2, ei]
  · obtain ⟨x, d2, hx, ok2, e2⟩ := any_name_ok hws hpl ok1
    refine ⟨_, d2, .great x hx, ok2, ?_⟩
    simp (decide := true) -implicitDefEqProofs only [x_var, x_vi, x_vo, x_vp, x_c, x_rdi, x_rdo, x_rdr, x_rki, x_rko, x_rkp, x_opt, x_bin, x_bin1, x_bin2, x_bin3, x_un, x_un1, x_un2, x_frz, x_fzi, x_fzo, x_fzr, x_fki, x_fko, x_fzl, x_fzd, x_fzt, x_args, x_args1, x_args2, x_im0, x_im1, x_nil, x_cons, x_cons1, x_cons2, x_cons3, x_call, x_call1, x_call2, x_call3, x_call4, x_ta0, x_ta1, x_ta2, x_tk1, x_tk2, x_tk3, x_rf0, x_rf1, x_rf2, x_nd0, x_nd1, x_nd2, x_wb0, x_wb1, x_po0, x_po1, x_po2, x_w0, x_w1, x_w2, x_w3, x_wk1, x_wk2, x_tV, x_tV1, x_tr, x_tr1, x_tr2, x_tr3, x_not, x_not1, x_and, x_and1, x_and2, x_or, x_or1, x_or2, x_andV, x_andV1, x_andV2, x_orV, x_orV1, x_orV2, x_notV, x_notV1, x_if, x_if1, x_if2, x_pno, x_pat, x_pat1, x_slc, x_slc1, x_slc2, x_slc3, x_m1, x_m11, x_m12, x_isS, x_iof, x_iof1, x_iof2, x_itl, x_itt, x_its, x_rng, x_rng1, x_rng2, x_lc, x_lc1, x_lc2, x_tg1, x_wi0, x_wi1, x_re0, x_re1, x_gk, x_ia0, x_ia1, x_ii1, x_ii2, x_seq, x_seq1, x_seq2, x_seq3, x_seq4, x_seq5, x_pass, x_brk, x_cont, x_retN, x_nxK, x_put, x_pk1, x_pk2, x_pk3, x_set, x_set1, x_set2, x_set3, x_asg, x_asg1, x_setN, x_setTp, x_sts0, x_sts1, x_sts2, x_ifS, x_ifS1, x_ifS2, x_ret, x_ret1, x_ret2, x_exp, x_exp1, x_exp2, x_ow, x_ow1, x_ow2, x_rs, x_rs1, x_rs2, x_app, x_app1, x_app2, x_app3, x_sput, x_sput1, x_sput2, x_sput3, x_sput4, x_sput5, x_for, x_for1, x_run, x_fin1, x_fin2, x_fin3, x_fin4, x_fin5, x_rvi, x_rvo, x_rvr, x_rk1, x_rk2, x_ba0, x_ba1, x_ba2, x_se, x_si, x_sm, x_tupD, x_lstD, x_plusS, x_plusL, x_lenS, x_lenL, x_lenT, x_sub, x_lt, x_gt, x_le, x_ge, x_neg, x_revs, x_neB, x_eqB, x_tB, x_pkn, x_iin, x_slcS, x_slcL, x_slcT, x_memT, x_memL, x_yes, x_tms, x_mod, x_fdiv, x_sm62, x_big, x_bigL, x_par, x_par1, x_par2, x_enm, x_enm1, x_enm2, x_newT, Out.bind_ok, Out.bind_exc, Out.bind_fail, List.getElem?_cons_zero, List.getElem?_cons_succ, List.set_cons_zero, List.set_cons_succ, plusI, eqI, Option.map_some, Option.map_none, List.length_cons, List.length_nil, Nat.zero_add, Nat.add_zero, List.map_cons, List.map_nil, reduceIte, if_true, if_false, Nat.reduceAdd, Nat.reduceSub, Nat.reduceLeDiff, List.replicate_succ, List.replicate_zero, List.cons_append, List.nil_append, Bool.false_eq_true, Bool.not_true, Bool.not_false, List.getElem?_nil, Bool.and_true, Bool.true_and, bne_iff_ne, ne_eq, Nat.succ_ne_zero, not_false_eq_true, not_true_eq_false, reduceCtorEq, Nat.add_one_sub_one, eq_self, Int.reduceLT, Int.reduceLE, Int.reduceNeg, Int.reduceAdd, Int.reduceSub, Int.reduceMul, Int.reduceEq, Int.reduceBEq, Int.reduceBNe, Int.reduceMod, Int.reduceDiv, Nat.reduceEqDiff, Int.reduceToNat, decide_true, decide_false, true_and, and_true, and_self, Bool.and_self, e1, e2]
  · obtain ⟨x, d2, hx, ok2, e2⟩ := any_name_ok hws hpl ok1
    obtain ⟨y, d3, hy, ok3, e3⟩ := any_name_ok hws hpl ok2
    refine ⟨_, d3, .fault x y hx hy, ok3, ?_⟩
    simp (decide := true) -implicitDefEqProofs only [x_var, x_vi, x_vo, x_vp, x_c, x_rdi, x_rdo, x_rdr, x_rki, x_rko, x_rkp, x_opt, x_bin, x_bin1, x_bin2, x_bin3, x_un, x_un1, x_un2, x_frz, x_fzi, x_fzo, x_fzr, x_fki, x_fko, x_fzl, x_fzd, x_fzt, x_args, x_args1, x_args2, x_im0, x_im1, x_nil, x_cons, x_cons1, x_cons2, x_cons3, x_call, x_call1, x_call2, x_call3, x_call4, x_ta0, x_ta1, x_ta2, x_tk1, x_tk2, x_tk3, x_rf0, x_rf1, x_rf2, x_nd0, x_nd1, x_nd2, x_wb0, x_wb1, x_po0, x_po1, x_po2, x_w0, x_w1, x_w2, x_w3, x_wk1, x_wk2, x_tV, x_tV1, x_tr, x_tr1, x_tr2, x_tr3, x_not, x_not1, x_and, x_and1, x_and2, x_or, x_or1, x_or2, x_andV, x_andV1, x_andV2, x_orV, x_orV1, x_orV2, x_notV, x_notV1, x_if, x_if1, x_if2, x_pno, x_pat, x_pat1, x_slc, x_slc1, x_slc2, x_slc3, x_m1, x_m11, x_m12, x_isS, x_iof, x_iof1, x_iof2, x_itl, x_itt, x_its, x_rng, x_rng1, x_rng2, x_lc, x_lc1, x_lc2, x_tg1, x_wi0, x_wi1, x_re0, x_re1, x_gk, x_ia0, x_ia1, x_ii1, x_ii2, x_seq, x_seq1, x_seq2, x_seq3, x_seq4, x_seq5, x_pass, x_brk, x_cont, x_retN, x_nxK, x_put, x_pk1, x_pk2, x_pk3, x_set, x_set1, x_set2, x_set3, x_asg, x_asg1, x_setN, x_setTp, x_sts0, x_sts1, x_sts2, x_ifS, x_ifS1, x_ifS2, x_ret, x_ret1, x_ret2, x_exp, x_exp1, x_exp2, x_ow, x_ow1, x_ow2, x_rs, x_rs1, x_rs2, x_app, x_app1, x_app2, x_app3, x_sput, x_sput1, x_sput2, x_sput3, x_sput4, x_sput5, x_for, x_for1, x_run, x_fin1, x_fin2, x_fin3, x_fin4, x_fin5, x_rvi, x_rvo, x_rvr, x_rk1, x_rk2, x_ba0, x_ba1, x_ba2, x_se, x_si, x_sm, x_tupD, x_lstD, x_plusS, x_plusL, x_lenS, x_lenL, x_lenT, x_sub, x_lt, x_gt, x_le, x_ge, x_neg, x_revs, x_neB, x_eqB, x_tB, x_pkn, x_iin, x_slcS, x_slcL, x_slcT, x_memT, x_memL, x_yes, x_tms, x_mod, x_fdiv, x_sm62, x_big, x_bigL, x_par, x_par1, x_par2, x_enm, x_enm1, x_enm2, x_newT, Out.bind_ok, Out.bind_exc, Out.bind_fail, List.getElem?_cons_zero, List.getElem?_cons_succ, List.set_cons_zero, List.set_cons_succ, plusI, eqI, Option.map_some, Option.map_none, List.length_cons, List.length_nil, Nat.zero_add, Nat.add_zero, List.map_cons, List.map_nil, reduceIte, if_true, if_false, Nat.reduceAdd, Nat.reduceSub, Nat.reduceLeDiff, List.replicate_succ, List.replicate_zero, List.cons_append, List.nil_append, Bool.false_eq_true, Bool.not_true, Bool.not_false, List.getElem?_nil, Bool.and_true, Bool.true_and, bne_iff_ne, ne_eq, Nat.succ_ne_zero, not_false_eq_true, not_true_eq_false, reduceCtorEq, Nat.add_one_sub_one, eq_self, Int.reduceLT, Int.reduceLE, Int.reduceNeg, Int.reduceAdd, Int.reduceSub, Int.reduceMul, Int.reduceEq, Int.reduceBEq, Int.reduceBNe, Int.reduceMod, Int.reduceDiv, Nat.reduceEqDiff, Int.reduceToNat, decide_true, decide_false, true_and, and_true, and_self, Bool.and_self, e1, e2, e3]
  · exact last 3 (.inl rfl) e1
  · exact last 4 (.inr rfl) e1
end
end K31

namespace K31
open PySem L2 PF
theorem pairsI_enc : ∀ ps : List IP, pairsI (ps.map encI) = some ps
  | [] => rfl
  | p :: ps => by
    rw [List.map_cons, pairsI, pairsI_enc ps]
    rfl
theorem sset_ok {ps : List IP} (hl : ps.length < 64) (ho : ∀ p ∈ ps, okPr p = true) : ssetD (.lst (ps.map encI)) = some (.own (.lst ((sortP ps).map encI))) := by
  have e : (decide ((ps.map encI).length < 64) && ps.all okPr) = true := by
    rw [List.length_map, decide_eq_true hl, List.all_eq_true.mpr ho]; rfl
  unfold ssetD
  dsimp only
  rw [pairsI_enc]
  dsimp only
  rw [e]
  rfl
theorem assoc_any {α β : Type} [DecidableEq α] (k : α) : ∀ l : List (α × β), (l.any fun kv => decide (kv.1 = k)) = (assocD k l).isSome
  | [] => rfl
  | (a, b) :: l => by
    rw [List.any_cons, assocD]
    by_cases h : a = k
    · simp [h]
    · simp [h, assoc_any k l]
theorem assoc_app {α β : Type} [DecidableEq α] (k : α) : ∀ (l : List (α × β)) (m : List (α × β)), assocD k (l ++ m) = (assocD k l).or (assocD k m)
  | [], m => by simp [assocD]
  | (a, b) :: l, m => by
    rw [List.cons_append, assocD, assocD]
    by_cases h : a = k
    · simp [h]
    · simp [h, assoc_app k l m]
theorem assoc_map {α : Type} [DecidableEq α] (k j : α) (d : D) : ∀ (l : List (α × D)), assocD j (l.map fun kv => if kv.1 = k then (kv.1, d) else kv) = if j = k then (assocD j l).map (fun _ => d) else assocD j l
  | [] => by simp [assocD]
  | (a, b) :: l => by
    have ih := assoc_map k j d l
    rw [List.map_cons]
    by_cases h : a = k
    · by_cases h2 : a = j
      · have : j = k := h2 ▸ h
        simp [h, this, assocD]
      · have h3 : ¬ j = k := fun z => h2 (h.trans z.symm)
        have h4 : ¬ k = j := fun z => h3 z.symm
        simp only [h, if_true, if_neg h3, assocD, if_neg h4]
        rw [ih, if_neg h3]
    · by_cases h2 : a = j
      · subst h2
        simp [h, assocD]
      · simp only [if_neg h, assocD, if_neg h2]
        exact ih
theorem assoc_put {α : Type} [DecidableEq α] (k j : α) (d : D) (l : List (α × D)) : assocD j (putA l k d) = if j = k then some d else assocD j l := by
  unfold putA
  rw [assoc_any]
  cases h : assocD k l with
  | some x =>
    simp only [Option.isSome_some, if_true]
    rw [assoc_map]
    by_cases e : j = k
    · subst e; simp [h]
    · rw [if_neg e, if_neg e]
  | none =>
    simp only [Option.isSome_none, Bool.false_eq_true, if_false]
    rw [assoc_app]
    by_cases e : j = k
    · subst e; simp [h, assocD]
    · have e' : ¬ k = j := fun z => e z.symm
      simp [e, assocD, e']
theorem put_len {α : Type} [DecidableEq α] (l : List (α × D)) (k : α) (d : D) : (putA l k d).length ≤ l.length + 1 := by
  unfold putA; split <;> simp
def Holds (b : Nat) (ps : List IP) (kvs : List (List DK × D)) : Prop := ∀ q ∈ ps, ∃ s : List Nat, s.length ≤ b ∧ assocD (dkP q) kvs = some (.str s)
theorem Holds.put {b : Nat} {ps : List IP} {kvs : List (List DK × D)} (h : Holds b ps kvs) (p : IP) (s : List Nat) (hs : s.length ≤ b) : Holds b (ps ++ [p]) (putA kvs (dkP p) (.str s)) := by
  intro q hq
  rw [assoc_put]
  by_cases e : dkP q = dkP p
  · exact ⟨s, hs, by rw [if_pos e]⟩
  · rw [if_neg e]
    rcases List.mem_append.mp hq with hq | hq
    · exact h q hq
    · rw [List.mem_singleton] at hq
      exact absurd (congrArg dkP hq) e
theorem pairsTD_ok (g : IP → List Nat) : ∀ ps : List IP, pairsTD (ps.map fun p => .tup [encI p, .str (g p)]) = some (ps.map fun p => (dkP p, D.str (g p)))
  | [] => rfl
  | p :: ps => by
    rw [List.map_cons, pairsTD, pairsTD_ok g ps]
    rfl
theorem merge_holds {b : Nat} (g : IP → List Nat) (hg : ∀ p, (g p).length ≤ b) : ∀ (ps done : List IP) (kvs : List (List DK × D)), Holds b done kvs → Holds b (done ++ ps) (mergeA kvs (ps.map fun p => (dkP p, D.str (g p))))
  | [], done, kvs, h => by simpa [mergeA] using h
  | p :: ps, done, kvs, h => by
    have := merge_holds g hg ps (done ++ [p]) _ (h.put p (g p) (hg p))
    rw [List.append_assoc] at this
    exact this
theorem take_step {α : Type} {l : List α} {j : Nat} {x : α} (h : l[j]? = some x) : l.take (j + 1) = l.take j ++ [x] := by
  rw [List.take_add_one, h]; rfl
theorem TL_strs : ∀ {l : List D}, (∀ v ∈ l, TL 100 v) → ∃ ss : List (List Nat), l = ss.map .str
  | [], _ => ⟨[], rfl⟩
  | d :: l, h => by
    obtain ⟨s, rfl, _⟩ := h d List.mem_cons_self
    obtain ⟨ss, rfl⟩ := TL_strs fun v hv => h v (List.mem_cons_of_mem _ hv)
    exact ⟨s :: ss, rfl⟩
theorem neSame {u : D} (h : okP 180 u = true) : neD u u = some (.imm (.bl false)) := by
  unfold neD
  rw [h, eqP_refl u h]
  rfl
def nmOf (N : D) (p : IP) : List Nat := match idxD N (encI p) with
  | some (.imm (.str s)) => s.take 100
  | _ => []
theorem law_true (ns : List Int) (hl : ns.length ≤ 63) (hb : ∀ z ∈ ns, Builtin.Int.intBits z ≤ 1048576) : ∃ bs, g_law [.imm (.lst (ns.map .int))] = .ret (.imm (.bl true)) bs := by
  have hbig : (5000 : Nat) < big := by decide
  obtain ⟨d1, ok1, e1⟩ := deal_ok (ns := ns) (base := 0) (by omega)
  have e1' : g__law_deal [.imm (.lst (ns.map .int)), .imm (.int 0)] = .ret (.own d1) [.imm (.lst (ns.map .int)), .imm (.int 0)] := e1
  obtain ⟨ws, d2, hws, hwl, ok2, e2⟩ := words_ok ok1 12 (by decide) (by decide)
  have e2' : g__law_words [.mt d1, .imm (.int 12)] = .ret (.own (.lst ws)) [.mt d2, .imm (.int 12)] := e2
  obtain ⟨ss, rfl⟩ := TL_strs hws
  rw [List.length_map] at hwl
  obtain ⟨S, hS⟩ : ∃ S, S = D.lst (ns.map .int) := ⟨_, rfl⟩
  -- the places
  obtain ⟨r, d3, r0, r1, ok3, e3⟩ := drw (8 : Int) ok2 (by decide) (by decide)
  obtain ⟨acc, ρ', eP, d4, ps, ok4, hps, rfl, hal, er⟩ := lcL_go (t := .nm 4) (c := stYes) (e := eArgs tupD (aCons (eBin plusD (eC (.int 1)) (eCall g__law_draw (aCons (eVar 1) (aCons (eC (.int 30)) aNil)))) (aCons (eFrz (eCall g__law_draw (aCons (eVar 1) (aCons (eC (.int 4)) aNil)))) aNil)))
    (fun k acc ρ => ∃ (d : D) (ps : List IP), dealOk d ∧ (∀ p ∈ ps, okPr p = true) ∧ acc = ps.map encI ∧ ps.length = k ∧ ρ = [.imm S, .own d, .own (Wl ss), .non, .non, .non, .non, .non, .non, .non, .non, .non])
    (rngD 0 (1 + r).toNat) 0 [] [.imm S, .own d3, .own (Wl ss), .non, .non, .non, .non, .non, .non, .non, .non, .non] ⟨d3, [], ok3, by simp, rfl, rfl, rfl⟩ (fun j x hx acc ρ h => by
      obtain ⟨d, ps, okd, hps, rfl, hlen, rfl⟩ := h
      obtain ⟨rfl, hj⟩ := rngD_get hx
      obtain ⟨x, d5, x0, x1, ok5, f1⟩ := drw (30 : Int) okd (by decide) (by decide)
      obtain ⟨y, d6, y0, y1, ok6, f2⟩ := drw (4 : Int) ok5 (by decide) (by decide)
      refine ⟨[.imm S, .own d, .own (Wl ss), .non, .imm (.int (0 + j)), .non, .non, .non, .non, .non, .non, .non], rfl, true, _, rfl, fun _ => ⟨by rw [List.length_map]; omega, encI (1 + x, y), [.imm S, .own d6, .own (Wl ss), .non, .imm (.int (0 + j)), .non, .non, .non, .non, .non, .non, .non], ?_, d6, ps ++ [(1 + x, y)], ok6, ?_, by rw [List.map_append]; rfl, by rw [List.length_append, hlen, List.length_singleton], rfl⟩, fun z => nomatch z⟩
      · unfold encI
        simp (decide := true) -implicitDefEqProofs only [x_var, x_vi, x_vo, x_vp, x_c, x_rdi, x_rdo, x_rdr, x_rki, x_rko, x_rkp, x_opt, x_bin, x_bin1, x_bin2, x_bin3, x_un, x_un1, x_un2, x_frz, x_fzi, x_fzo, x_fzr, x_fki, x_fko, x_fzl, x_fzd, x_fzt, x_args, x_args1, x_args2, x_im0, x_im1, x_nil, x_cons, x_cons1, x_cons2, x_cons3, x_call, x_call1, x_call2, x_call3, x_call4, x_ta0, x_ta1, x_ta2, x_tk1, x_tk2, x_tk3, x_rf0, x_rf1, x_rf2, x_nd0, x_nd1, x_nd2, x_wb0, x_wb1, x_po0, x_po1, x_po2, x_w0, x_w1, x_w2, x_w3, x_wk1, x_wk2, x_tV, x_tV1, x_tr, x_tr1, x_tr2, x_tr3, x_not, x_not1, x_and, x_and1, x_and2, x_or, x_or1, x_or2, x_andV, x_andV1, x_andV2, x_orV, x_orV1, x_orV2, x_notV, x_notV1, x_if, x_if1, x_if2, x_pno, x_pat, x_pat1, x_slc, x_slc1, x_slc2, x_slc3, x_m1, x_m11, x_m12, x_isS, x_iof, x_iof1, x_iof2, x_itl, x_itt, x_its, x_rng, x_rng1, x_rng2, x_lc, x_lc1, x_lc2, x_tg1, x_wi0, x_wi1, x_re0, x_re1, x_gk, x_ia0, x_ia1, x_ii1, x_ii2, x_seq, x_seq1, x_seq2, x_seq3, x_seq4, x_seq5, x_pass, x_brk, x_cont, x_retN, x_nxK, x_put, x_pk1, x_pk2, x_pk3, x_set, x_set1, x_set2, x_set3, x_asg, x_asg1, x_setN, x_setTp, x_sts0, x_sts1, x_sts2, x_ifS, x_ifS1, x_ifS2, x_ret, x_ret1, x_ret2, x_exp, x_exp1, x_exp2, x_ow, x_ow1, x_ow2, x_rs, x_rs1, x_rs2, x_app, x_app1, x_app2, x_app3, x_sput, x_sput1, x_sput2, x_sput3, x_sput4, x_sput5, x_for, x_for1, x_run, x_fin1, x_fin2, x_fin3, x_fin4, x_fin5, x_rvi, x_rvo, x_rvr, x_rk1, x_rk2, x_ba0, x_ba1, x_ba2, x_se, x_si, x_sm, x_tupD, x_lstD, x_plusS, x_plusL, x_lenS, x_lenL, x_lenT, x_sub, x_lt, x_gt, x_le, x_ge, x_neg, x_revs, x_neB, x_eqB, x_tB, x_pkn, x_iin, x_slcS, x_slcL, x_slcT, x_memT, x_memL, x_yes, x_tms, x_mod, x_fdiv, x_sm62, x_big, x_bigL, x_par, x_par1, x_par2, x_enm, x_enm1, x_enm2, x_newT, Out.bind_ok, Out.bind_exc, Out.bind_fail, List.getElem?_cons_zero, List.getElem?_cons_succ, List.set_cons_zero, List.set_cons_succ, plusI, eqI, Option.map_some, Option.map_none, List.length_cons, List.length_nil, Nat.zero_add, Nat.add_zero, List.map_cons, List.map_nil, reduceIte, if_true, if_false, Nat.reduceAdd, Nat.reduceSub, Nat.reduceLeDiff, List.replicate_succ, List.replicate_zero, List.cons_append, List.nil_append, Bool.false_eq_true, Bool.not_true, Bool.not_false, List.getElem?_nil, Bool.and_true, Bool.true_and, bne_iff_ne, ne_eq, Nat.succ_ne_zero, not_false_eq_true, not_true_eq_false, reduceCtorEq, Nat.add_one_sub_one, eq_self, Int.reduceLT, Int.reduceLE, Int.reduceNeg, Int.reduceAdd, Int.reduceSub, Int.reduceMul, Int.reduceEq, Int.reduceBEq, Int.reduceBNe, Int.reduceMod, Int.reduceDiv, Nat.reduceEqDiff, Int.reduceToNat, decide_true, decide_false, true_and, and_true, and_self, Bool.and_self, f1, f2]
      · intro p hp
        rcases List.mem_append.mp hp with hp | hp
        · exact hps p hp
        · rw [List.mem_singleton] at hp
          rw [hp]
          unfold okPr
          simp only [Bool.and_eq_true, decide_eq_true_eq]
          omega)
  rw [rngD_len] at hal
  have hpl : ps.length = (1 + r).toNat := by omega
  subst er
  obtain ⟨pl, hpd⟩ : ∃ pl, pl = sortP ps := ⟨_, rfl⟩
  have hset : ssetD (.lst (ps.map encI)) = some (.own (Pl pl)) := by rw [hpd]; exact sset_ok (by omega) hps
  have hpl1 : 1 ≤ pl.length ∧ pl.length ≤ 8 := by
    refine ⟨?_, by rw [hpd]; exact Nat.le_trans (sortP_len ps) (by omega)⟩
    cases ps with
    | nil => simp at hpl; omega
    | cons p ps =>
      have hm : p ∈ pl := by rw [hpd]; exact (sortP_mem hps p).mpr List.mem_cons_self
      exact List.length_pos_of_mem hm
  -- the names
  obtain ⟨ρ', eN, kvs, s4, s6, hk, hkl, g4, g6, er⟩ := forL_nx (t := .tup [.nm 4, .nm 6]) (body := sPut 5 (eVar 6) (eBin plusD (eC (.str [110, 101, 119])) (eBin idxD (eC (.str [97, 98, 99, 100, 101, 102, 103, 104])) (eVar 4))))
    (l := enumL 0 (pl.map encI)) (ρ := [.imm S, .own d4, .own (Wl ss), .imm (Pl pl), .non, .own (.dcT []), .non, .non, .non, .non, .non, .non])
    (fun j ρ => ∃ kvs s4 s6, Holds 100 (pl.take j) kvs ∧ kvs.length ≤ j ∧ nim s4 ∧ nim s6 ∧ ρ = [.imm S, .own d4, .own (Wl ss), .imm (Pl pl), s4, .own (.dcT kvs), s6, .non, .non, .non, .non, .non])
    ⟨[], .non, .non, fun q hq => by simp at hq, Nat.le_refl _, trivial, trivial, rfl⟩ (fun j x hx ρ hρ => by
      obtain ⟨kvs, s4, s6, hk, hkl, g4, g6, rfl⟩ := hρ
      rw [enumL_get, List.getElem?_map] at hx
      cases hy : pl[j]? with
      | none => rw [hy] at hx; cases hx
      | some p =>
        rw [hy] at hx
        cases hx
        have hj : j < pl.length := lt_of_get hy
        obtain ⟨c, _, _, ec⟩ := idx_str (s := [97, 98, 99, 100, 101, 102, 103, 104]) (r := ((0 + j : Nat) : Int)) (by omega) (by simp; omega) (by decide)
        have hput : putD (.dcT kvs) (encI p) (.str [110, 101, 119, c]) = some (.dcT (putA kvs (dkP p) (.str [110, 101, 119, c]))) := by
          show (if kvs.length < big then some (D.dcT (putA kvs (dkP p) (.str [110, 101, 119, c]))) else none) = _
          rw [if_pos (by omega)]
        refine ⟨[.imm S, .own d4, .own (Wl ss), .imm (Pl pl), .imm (.int ((0 + j : Nat) : Int)), .own (.dcT kvs), .imm (encI p), .non, .non, .non, .non, .non], [.imm S, .own d4, .own (Wl ss), .imm (Pl pl), .imm (.int ((0 + j : Nat) : Int)), .own (.dcT (putA kvs (dkP p) (.str [110, 101, 119, c]))), .imm (encI p), .non, .non, .non, .non, .non], ?_, .inl ?_, _, _, _, ?_, Nat.le_trans (put_len _ _ _) (by omega), nim1 _, nim1 _, rfl⟩
        · simp -implicitDefEqProofs only [g4, g6, x_var, x_vi, x_vo, x_vp, x_c, x_rdi, x_rdo, x_rdr, x_rki, x_rko, x_rkp, x_opt, x_bin, x_bin1, x_bin2, x_bin3, x_un, x_un1, x_un2, x_frz, x_fzi, x_fzo, x_fzr, x_fki, x_fko, x_fzl, x_fzd, x_fzt, x_args, x_args1, x_args2, x_im0, x_im1, x_nil, x_cons, x_cons1, x_cons2, x_cons3, x_call, x_call1, x_call2, x_call3, x_call4, x_ta0, x_ta1, x_ta2, x_tk1, x_tk2, x_tk3, x_rf0, x_rf1, x_rf2, x_nd0, x_nd1, x_nd2, x_wb0, x_wb1, x_po0, x_po1, x_po2, x_w0, x_w1, x_w2, x_w3, x_wk1, x_wk2, x_tV, x_tV1, x_tr, x_tr1, x_tr2, x_tr3, x_not, x_not1, x_and, x_and1, x_and2, x_or, x_or1, x_or2, x_andV, x_andV1, x_andV2, x_orV, x_orV1, x_orV2, x_notV, x_notV1, x_if, x_if1, x_if2, x_pno, x_pat, x_pat1, x_slc, x_slc1, x_slc2, x_slc3, x_m1, x_m11, x_m12, x_isS, x_iof, x_iof1, x_iof2, x_itl, x_itt, x_its, x_rng, x_rng1, x_rng2, x_lc, x_lc1, x_lc2, x_tg1, x_wi0, x_wi1, x_re0, x_re1, x_gk, x_ia0, x_ia1, x_ii1, x_ii2, x_seq, x_seq1, x_seq2, x_seq3, x_seq4, x_seq5, x_pass, x_brk, x_cont, x_retN, x_nxK, x_put, x_pk1, x_pk2, x_pk3, x_set, x_set1, x_set2, x_set3, x_asg, x_asg1, x_setN, x_setTp, x_sts0, x_sts1, x_sts2, x_ifS, x_ifS1, x_ifS2, x_ret, x_ret1, x_ret2, x_exp, x_exp1, x_exp2, x_ow, x_ow1, x_ow2, x_rs, x_rs1, x_rs2, x_app, x_app1, x_app2, x_app3, x_sput, x_sput1, x_sput2, x_sput3, x_sput4, x_sput5, x_for, x_for1, x_run, x_fin1, x_fin2, x_fin3, x_fin4, x_fin5, x_rvi, x_rvo, x_rvr, x_rk1, x_rk2, x_ba0, x_ba1, x_ba2, x_se, x_si, x_sm, x_tupD, x_lstD, x_plusS, x_plusL, x_lenS, x_lenL, x_lenT, x_sub, x_lt, x_gt, x_le, x_ge, x_neg, x_revs, x_neB, x_eqB, x_tB, x_pkn, x_iin, x_slcS, x_slcL, x_slcT, x_memT, x_memL, x_yes, x_tms, x_mod, x_fdiv, x_sm62, x_big, x_bigL, x_par, x_par1, x_par2, x_enm, x_enm1, x_enm2, x_newT, Out.bind_ok, Out.bind_exc, Out.bind_fail, List.getElem?_cons_zero, List.getElem?_cons_succ, List.set_cons_zero, List.set_cons_succ, plusI, eqI, Option.map_some, Option.map_none, List.length_cons, List.length_nil, Nat.zero_add, Nat.add_zero, List.map_cons, List.map_nil, reduceIte, if_true, if_false, Nat.reduceAdd, Nat.reduceSub, Nat.reduceLeDiff, List.replicate_succ, List.replicate_zero, List.cons_append, List.nil_append, Bool.false_eq_true, Bool.not_true, Bool.not_false, List.getElem?_nil, Bool.and_true, Bool.true_and, bne_iff_ne, ne_eq, Nat.succ_ne_zero, not_false_eq_true, not_true_eq_false, reduceCtorEq, Nat.add_one_sub_one, eq_self, Int.reduceLT, Int.reduceLE, Int.reduceNeg, Int.reduceAdd, Int.reduceSub, Int.reduceMul, Int.reduceEq, Int.reduceBEq, Int.reduceBNe, Int.reduceMod, Int.reduceDiv, Nat.reduceEqDiff, Int.reduceToNat, decide_true, decide_false, true_and, and_true, and_self, Bool.and_self]
        · rw [Nat.zero_add] at ec
          generalize encI p = x at *
          simp (decide := true) -implicitDefEqProofs only [x_var, x_vi, x_vo, x_vp, x_c, x_rdi, x_rdo, x_rdr, x_rki, x_rko, x_rkp, x_opt, x_bin, x_bin1, x_bin2, x_bin3, x_un, x_un1, x_un2, x_frz, x_fzi, x_fzo, x_fzr, x_fki, x_fko, x_fzl, x_fzd, x_fzt, x_args, x_args1, x_args2, x_im0, x_im1, x_nil, x_cons, x_cons1, x_cons2, x_cons3, x_call, x_call1, x_call2, x_call3, x_call4, x_ta0, x_ta1, x_ta2, x_tk1, x_tk2, x_tk3, x_rf0, x_rf1, x_rf2, x_nd0, x_nd1, x_nd2, x_wb0, x_wb1, x_po0, x_po1, x_po2, x_w0, x_w1, x_w2, x_w3, x_wk1, x_wk2, x_tV, x_tV1, x_tr, x_tr1, x_tr2, x_tr3, x_not, x_not1, x_and, x_and1, x_and2, x_or, x_or1, x_or2, x_andV, x_andV1, x_andV2, x_orV, x_orV1, x_orV2, x_notV, x_notV1, x_if, x_if1, x_if2, x_pno, x_pat, x_pat1, x_slc, x_slc1, x_slc2, x_slc3, x_m1, x_m11, x_m12, x_isS, x_iof, x_iof1, x_iof2, x_itl, x_itt, x_its, x_rng, x_rng1, x_rng2, x_lc, x_lc1, x_lc2, x_tg1, x_wi0, x_wi1, x_re0, x_re1, x_gk, x_ia0, x_ia1, x_ii1, x_ii2, x_seq, x_seq1, x_seq2, x_seq3, x_seq4, x_seq5, x_pass, x_brk, x_cont, x_retN, x_nxK, x_put, x_pk1, x_pk2, x_pk3, x_set, x_set1, x_set2, x_set3, x_asg, x_asg1, x_setN, x_setTp, x_sts0, x_sts1, x_sts2, x_ifS, x_ifS1, x_ifS2, x_ret, x_ret1, x_ret2, x_exp, x_exp1, x_exp2, x_ow, x_ow1, x_ow2, x_rs, x_rs1, x_rs2, x_app, x_app1, x_app2, x_app3, x_sput, x_sput1, x_sput2, x_sput3, x_sput4, x_sput5, x_for, x_for1, x_run, x_fin1, x_fin2, x_fin3, x_fin4, x_fin5, x_rvi, x_rvo, x_rvr, x_rk1, x_rk2, x_ba0, x_ba1, x_ba2, x_se, x_si, x_sm, x_tupD, x_lstD, x_plusS, x_plusL, x_lenS, x_lenL, x_lenT, x_sub, x_lt, x_gt, x_le, x_ge, x_neg, x_revs, x_neB, x_eqB, x_tB, x_pkn, x_iin, x_slcS, x_slcL, x_slcT, x_memT, x_memL, x_yes, x_tms, x_mod, x_fdiv, x_sm62, x_big, x_bigL, x_par, x_par1, x_par2, x_enm, x_enm1, x_enm2, x_newT, Out.bind_ok, Out.bind_exc, Out.bind_fail, List.getElem?_cons_zero, List.getElem?_cons_succ, List.set_cons_zero, List.set_cons_succ, plusI, eqI, Option.map_some, Option.map_none, List.length_cons, List.length_nil, Nat.zero_add, Nat.add_zero, List.map_cons, List.map_nil, reduceIte, if_true, if_false, Nat.reduceAdd, Nat.reduceSub, Nat.reduceLeDiff, List.replicate_succ, List.replicate_zero, List.cons_append, List.nil_append, Bool.false_eq_true, Bool.not_true, Bool.not_false, List.getElem?_nil, Bool.and_true, Bool.true_and, bne_iff_ne, ne_eq, Nat.succ_ne_zero, not_false_eq_true, not_true_eq_false, reduceCtorEq, Nat.add_one_sub_one, eq_self, Int.reduceLT, Int.reduceLE, Int.reduceNeg, Int.reduceAdd, Int.reduceSub, Int.reduceMul, Int.reduceEq, Int.reduceBEq, Int.reduceBNe, Int.reduceMod, Int.reduceDiv, Nat.reduceEqDiff, Int.reduceToNat, decide_true, decide_false, true_and, and_true, and_self, Bool.and_self, ec, hput]
        · rw [take_step hy]
          exact hk.put p _ (by simp))
  rw [enumL_len, List.length_map] at hk hkl
  rw [List.take_of_length_le (Nat.le_refl _)] at hk
  subst er
  have hN : Has pl (.dcT kvs) := ⟨kvs, rfl, fun q hq => by obtain ⟨s, h1, h2⟩ := hk q hq; exact ⟨s, by omega, h2⟩⟩
  obtain ⟨N, hNe⟩ : ∃ N, N = D.dcT kvs := ⟨_, rfl⟩
  have hix : ∀ p ∈ pl, ∃ s : List Nat, s.length ≤ 100 ∧ idxD N (encI p) = some (.imm (.str s)) := fun p hp => by
    obtain ⟨s, h1, h2⟩ := hk p hp
    refine ⟨s, h1, ?_⟩
    rw [hNe]
    show (assocD (dkP p) kvs).map Vl.imm = _
    rw [h2]; rfl
  rw [← hNe] at hN
  -- the other names
  have eO := lcL_map (i := 6) (e := eArgs tupD (aCons (eFrz (eVar 6)) (aCons (eBin plusD (eC (.str [122])) (eSlc (eBin idxD (eVar 5) (eVar 6)) (.at (eC (.int 3))) .no)) aNil))) (ρ := [.imm S, .own d4, .own (Wl ss), .imm (Pl pl), s4, .own N, .non, .non, .non, .non, .non, .non])
    (fun d => match idxD N d with
      | some (.imm (.str s)) => .tup [d, .str (122 :: cutD s (some 3) none)]
      | _ => .non) (by simp) rfl (pl.map encI) [] (fun d hd => by
        obtain ⟨p, hp, rfl⟩ := List.mem_map.mp hd
        obtain ⟨s, hs, e⟩ := hix p hp
        have hc := cut_len s (some 3) none
        have b1 : s.length ≤ big := by omega
        have b2 : 1 + (cutD s (some 3) none).length ≤ big := by omega
        rw [e]
        generalize encI p = x at *
        simp (decide := true) -implicitDefEqProofs only [x_var, x_vi, x_vo, x_vp, x_c, x_rdi, x_rdo, x_rdr, x_rki, x_rko, x_rkp, x_opt, x_bin, x_bin1, x_bin2, x_bin3, x_un, x_un1, x_un2, x_frz, x_fzi, x_fzo, x_fzr, x_fki, x_fko, x_fzl, x_fzd, x_fzt, x_args, x_args1, x_args2, x_im0, x_im1, x_nil, x_cons, x_cons1, x_cons2, x_cons3, x_call, x_call1, x_call2, x_call3, x_call4, x_ta0, x_ta1, x_ta2, x_tk1, x_tk2, x_tk3, x_rf0, x_rf1, x_rf2, x_nd0, x_nd1, x_nd2, x_wb0, x_wb1, x_po0, x_po1, x_po2, x_w0, x_w1, x_w2, x_w3, x_wk1, x_wk2, x_tV, x_tV1, x_tr, x_tr1, x_tr2, x_tr3, x_not, x_not1, x_and, x_and1, x_and2, x_or, x_or1, x_or2, x_andV, x_andV1, x_andV2, x_orV, x_orV1, x_orV2, x_notV, x_notV1, x_if, x_if1, x_if2, x_pno, x_pat, x_pat1, x_slc, x_slc1, x_slc2, x_slc3, x_m1, x_m11, x_m12, x_isS, x_iof, x_iof1, x_iof2, x_itl, x_itt, x_its, x_rng, x_rng1, x_rng2, x_lc, x_lc1, x_lc2, x_tg1, x_wi0, x_wi1, x_re0, x_re1, x_gk, x_ia0, x_ia1, x_ii1, x_ii2, x_seq, x_seq1, x_seq2, x_seq3, x_seq4, x_seq5, x_pass, x_brk, x_cont, x_retN, x_nxK, x_put, x_pk1, x_pk2, x_pk3, x_set, x_set1, x_set2, x_set3, x_asg, x_asg1, x_setN, x_setTp, x_sts0, x_sts1, x_sts2, x_ifS, x_ifS1, x_ifS2, x_ret, x_ret1, x_ret2, x_exp, x_exp1, x_exp2, x_ow, x_ow1, x_ow2, x_rs, x_rs1, x_rs2, x_app, x_app1, x_app2, x_app3, x_sput, x_sput1, x_sput2, x_sput3, x_sput4, x_sput5, x_for, x_for1, x_run, x_fin1, x_fin2, x_fin3, x_fin4, x_fin5, x_rvi, x_rvo, x_rvr, x_rk1, x_rk2, x_ba0, x_ba1, x_ba2, x_se, x_si, x_sm, x_tupD, x_lstD, x_plusS, x_plusL, x_lenS, x_lenL, x_lenT, x_sub, x_lt, x_gt, x_le, x_ge, x_neg, x_revs, x_neB, x_eqB, x_tB, x_pkn, x_iin, x_slcS, x_slcL, x_slcT, x_memT, x_memL, x_yes, x_tms, x_mod, x_fdiv, x_sm62, x_big, x_bigL, x_par, x_par1, x_par2, x_enm, x_enm1, x_enm2, x_newT, Out.bind_ok, Out.bind_exc, Out.bind_fail, List.getElem?_cons_zero, List.getElem?_cons_succ, List.set_cons_zero, List.set_cons_succ, plusI, eqI, Option.map_some, Option.map_none, List.length_cons, List.length_nil, Nat.zero_add, Nat.add_zero, List.map_cons, List.map_nil, reduceIte, if_true, if_false, Nat.reduceAdd, Nat.reduceSub, Nat.reduceLeDiff, List.replicate_succ, List.replicate_zero, List.cons_append, List.nil_append, Bool.false_eq_true, Bool.not_true, Bool.not_false, List.getElem?_nil, Bool.and_true, Bool.true_and, bne_iff_ne, ne_eq, Nat.succ_ne_zero, not_false_eq_true, not_true_eq_false, reduceCtorEq, Nat.add_one_sub_one, eq_self, Int.reduceLT, Int.reduceLE, Int.reduceNeg, Int.reduceAdd, Int.reduceSub, Int.reduceMul, Int.reduceEq, Int.reduceBEq, Int.reduceBNe, Int.reduceMod, Int.reduceDiv, Nat.reduceEqDiff, Int.reduceToNat, decide_true, decide_false, true_and, and_true, and_self, Bool.and_self, e, b1, b2]) (by rw [List.length_nil, List.length_map]; omega)
  have hmap : ((pl.map encI).map fun d => match idxD N d with
      | some (.imm (.str s)) => D.tup [d, .str (122 :: cutD s (some 3) none)]
      | _ => .non) = pl.map fun p => .tup [encI p, .str (122 :: cutD (nmOf N p) (some 3) none)] := by
    rw [List.map_map]
    refine List.map_congr_left fun p hp => ?_
    obtain ⟨s, hs, e⟩ := hix p hp
    have en : nmOf N p = s := by
      unfold nmOf
      rw [e]
      exact List.take_of_length_le hs
    rw [en]
    show (match idxD N (encI p) with
      | some (.imm (.str s)) => D.tup [encI p, .str (122 :: cutD s (some 3) none)]
      | _ => .non) = _
    rw [e]
  rw [hmap, List.nil_append] at eO
  obtain ⟨O, hOe⟩ : ∃ O, O = D.dcT (mergeA [] (pl.map fun p => (dkP p, D.str (122 :: cutD (nmOf N p) (some 3) none)))) := ⟨_, rfl⟩
  have eD : dictTD (.lst (pl.map fun p => .tup [encI p, .str (122 :: cutD (nmOf N p) (some 3) none)])) = some (.own O) := by
    unfold dictTD
    dsimp only
    rw [pairsTD_ok (fun p => 122 :: cutD (nmOf N p) (some 3) none) pl, hOe]
  have hO : Has pl O := by
    have := merge_holds (b := 101) (fun p => 122 :: cutD (nmOf N p) (some 3) none) (fun p => by
      have h1 := cut_len (nmOf N p) (some 3) none
      have h2 : (nmOf N p).length ≤ 100 := by
        unfold nmOf
        split
        · rw [List.length_take]; omega
        · simp
      simp only [List.length_cons]; omega) pl [] [] (fun q hq => by simp at hq)
    rw [List.nil_append] at this
    exact ⟨_, hOe, fun q hq => by obtain ⟨s, h1, h2⟩ := this q hq; exact ⟨s, by omega, h2⟩⟩
  have fzN := has_fz hN
  have fzO := has_fz hO
  -- the turns
  have inner : ∀ (d v e : D) (s8 s11 : Sl), vOk pl 31 v → En pl e → nim s11 → ∃ s11', nim s11' ∧ forL (.nm 11) (sSeq (sIf (tV (eBin neD (eCall g__law_value (aCons (eFrz (eVar 11)) (aCons (eFrz (eVar 9)) aNil))) (eCall g__law_value (aCons (eFrz (eVar 11)) (aCons (eFrz (eVar 9)) aNil))))) (sRet (eC (.bl false))) sPass)
    (sIf (tV (eBin neD (eCall g__law_end (aCons (eFrz (eVar 11)) (aCons (eFrz (eVar 10)) aNil))) (eCall g__law_end (aCons (eFrz (eVar 11)) (aCons (eFrz (eVar 10)) aNil))))) (sRet (eC (.bl false))) sPass)) [N, O, N] [.imm S, .own d, .imm (Wl ss), .imm (Pl pl), s4, .imm N, s6, .imm O, s8, .imm v, .imm e, s11] =
      .nx [.imm S, .own d, .imm (Wl ss), .imm (Pl pl), s4, .imm N, s6, .imm O, s8, .imm v, .imm e, s11'] := by
    intro d v e s8 s11 hv he h11
    obtain ⟨ρ', eL, s11', h11', er⟩ := forL_nx (t := .nm 11) (body := sSeq (sIf (tV (eBin neD (eCall g__law_value (aCons (eFrz (eVar 11)) (aCons (eFrz (eVar 9)) aNil))) (eCall g__law_value (aCons (eFrz (eVar 11)) (aCons (eFrz (eVar 9)) aNil))))) (sRet (eC (.bl false))) sPass)
      (sIf (tV (eBin neD (eCall g__law_end (aCons (eFrz (eVar 11)) (aCons (eFrz (eVar 10)) aNil))) (eCall g__law_end (aCons (eFrz (eVar 11)) (aCons (eFrz (eVar 10)) aNil))))) (sRet (eC (.bl false))) sPass)) (l := [N, O, N]) (ρ := [.imm S, .own d, .imm (Wl ss), .imm (Pl pl), s4, .imm N, s6, .imm O, s8, .imm v, .imm e, s11])
      (fun j ρ => ∃ s11, nim s11 ∧ ρ = [.imm S, .own d, .imm (Wl ss), .imm (Pl pl), s4, .imm N, s6, .imm O, s8, .imm v, .imm e, s11]) ⟨s11, h11, rfl⟩ (fun j x hx ρ hρ => by
        obtain ⟨s11, h11, rfl⟩ := hρ
        have hT : Has pl x := by
          have := List.mem_of_getElem? hx
          simp only [List.mem_cons, List.not_mem_nil, or_false] at this
          rcases this with rfl | rfl | rfl
          · exact hN
          · exact hO
          · exact hN
        obtain ⟨ev, ov⟩ := value_ok hT 31 v hv 40 (by decide)
        have ev' : g__law_value [.imm x, .imm v] = .ret (.imm (valF 40 x v)) [.imm x, .imm v] := ev
        have nv := neSame (ov 180 (by decide))
        obtain ⟨u, ee, oe⟩ := end_ok hT he
        have ne := neSame oe
        refine ⟨[.imm S, .own d, .imm (Wl ss), .imm (Pl pl), s4, .imm N, s6, .imm O, s8, .imm v, .imm e, .imm x], [.imm S, .own d, .imm (Wl ss), .imm (Pl pl), s4, .imm N, s6, .imm O, s8, .imm v, .imm e, .imm x], ?_, .inl ?_, _, nim1 _, rfl⟩
        · simp -implicitDefEqProofs only [h11, x_var, x_vi, x_vo, x_vp, x_c, x_rdi, x_rdo, x_rdr, x_rki, x_rko, x_rkp, x_opt, x_bin, x_bin1, x_bin2, x_bin3, x_un, x_un1, x_un2, x_frz, x_fzi, x_fzo, x_fzr, x_fki, x_fko, x_fzl, x_fzd, x_fzt, x_args, x_args1, x_args2, x_im0, x_im1, x_nil, x_cons, x_cons1, x_cons2, x_cons3, x_call, x_call1, x_call2, x_call3, x_call4, x_ta0, x_ta1, x_ta2, x_tk1, x_tk2, x_tk3, x_rf0, x_rf1, x_rf2, x_nd0, x_nd1, x_nd2, x_wb0, x_wb1, x_po0, x_po1, x_po2, x_w0, x_w1, x_w2, x_w3, x_wk1, x_wk2, x_tV, x_tV1, x_tr, x_tr1, x_tr2, x_tr3, x_not, x_not1, x_and, x_and1, x_and2, x_or, x_or1, x_or2, x_andV, x_andV1, x_andV2, x_orV, x_orV1, x_orV2, x_notV, x_notV1, x_if, x_if1, x_if2, x_pno, x_pat, x_pat1, x_slc, x_slc1, x_slc2, x_slc3, x_m1, x_m11, x_m12, x_isS, x_iof, x_iof1, x_iof2, x_itl, x_itt, x_its, x_rng, x_rng1, x_rng2, x_lc, x_lc1, x_lc2, x_tg1, x_wi0, x_wi1, x_re0, x_re1, x_gk, x_ia0, x_ia1, x_ii1, x_ii2, x_seq, x_seq1, x_seq2, x_seq3, x_seq4, x_seq5, x_pass, x_brk, x_cont, x_retN, x_nxK, x_put, x_pk1, x_pk2, x_pk3, x_set, x_set1, x_set2, x_set3, x_asg, x_asg1, x_setN, x_setTp, x_sts0, x_sts1, x_sts2, x_ifS, x_ifS1, x_ifS2, x_ret, x_ret1, x_ret2, x_exp, x_exp1, x_exp2, x_ow, x_ow1, x_ow2, x_rs, x_rs1, x_rs2, x_app, x_app1, x_app2, x_app3, x_sput, x_sput1, x_sput2, x_sput3, x_sput4, x_sput5, x_for, x_for1, x_run, x_fin1, x_fin2, x_fin3, x_fin4, x_fin5, x_rvi, x_rvo, x_rvr, x_rk1, x_rk2, x_ba0, x_ba1, x_ba2, x_se, x_si, x_sm, x_tupD, x_lstD, x_plusS, x_plusL, x_lenS, x_lenL, x_lenT, x_sub, x_lt, x_gt, x_le, x_ge, x_neg, x_revs, x_neB, x_eqB, x_tB, x_pkn, x_iin, x_slcS, x_slcL, x_slcT, x_memT, x_memL, x_yes, x_tms, x_mod, x_fdiv, x_sm62, x_big, x_bigL, x_par, x_par1, x_par2, x_enm, x_enm1, x_enm2, x_newT, Out.bind_ok, Out.bind_exc, Out.bind_fail, List.getElem?_cons_zero, List.getElem?_cons_succ, List.set_cons_zero, List.set_cons_succ, plusI, eqI, Option.map_some, Option.map_none, List.length_cons, List.length_nil, Nat.zero_add, Nat.add_zero, List.map_cons, List.map_nil, reduceIte, if_true, if_false, Nat.reduceAdd, Nat.reduceSub, Nat.reduceLeDiff, List.replicate_succ, List.replicate_zero, List.cons_append, List.nil_append, Bool.false_eq_true, Bool.not_true, Bool.not_false, List.getElem?_nil, Bool.and_true, Bool.true_and, bne_iff_ne, ne_eq, Nat.succ_ne_zero, not_false_eq_true, not_true_eq_false, reduceCtorEq, Nat.add_one_sub_one, eq_self, Int.reduceLT, Int.reduceLE, Int.reduceNeg, Int.reduceAdd, Int.reduceSub, Int.reduceMul, Int.reduceEq, Int.reduceBEq, Int.reduceBNe, Int.reduceMod, Int.reduceDiv, Nat.reduceEqDiff, Int.reduceToNat, decide_true, decide_false, true_and, and_true, and_self, Bool.and_self]
        · simp (decide := true) -implicitDefEqProofs only [x_var, x_vi, x_vo, x_vp, x_c, x_rdi, x_rdo, x_rdr, x_rki, x_rko, x_rkp, x_opt, x_bin, x_bin1, x_bin2, x_bin3, x_un, x_un1, x_un2, x_frz, x_fzi, x_fzo, x_fzr, x_fki, x_fko, x_fzl, x_fzd, x_fzt, x_args, x_args1, x_args2, x_im0, x_im1, x_nil, x_cons, x_cons1, x_cons2, x_cons3, x_call, x_call1, x_call2, x_call3, x_call4, x_ta0, x_ta1, x_ta2, x_tk1, x_tk2, x_tk3, x_rf0, x_rf1, x_rf2, x_nd0, x_nd1, x_nd2, x_wb0, x_wb1, x_po0, x_po1, x_po2, x_w0, x_w1, x_w2, x_w3, x_wk1, x_wk2, x_tV, x_tV1, x_tr, x_tr1, x_tr2, x_tr3, x_not, x_not1, x_and, x_and1, x_and2, x_or, x_or1, x_or2, x_andV, x_andV1, x_andV2, x_orV, x_orV1, x_orV2, x_notV, x_notV1, x_if, x_if1, x_if2, x_pno, x_pat, x_pat1, x_slc, x_slc1, x_slc2, x_slc3, x_m1, x_m11, x_m12, x_isS, x_iof, x_iof1, x_iof2, x_itl, x_itt, x_its, x_rng, x_rng1, x_rng2, x_lc, x_lc1, x_lc2, x_tg1, x_wi0, x_wi1, x_re0, x_re1, x_gk, x_ia0, x_ia1, x_ii1, x_ii2, x_seq, x_seq1, x_seq2, x_seq3, x_seq4, x_seq5, x_pass, x_brk, x_cont, x_retN, x_nxK, x_put, x_pk1, x_pk2, x_pk3, x_set, x_set1, x_set2, x_set3, x_asg, x_asg1, x_setN, x_setTp, x_sts0, x_sts1, x_sts2, x_ifS, x_ifS1, x_ifS2, x_ret, x_ret1, x_ret2, x_exp, x_exp1, x_exp2, x_ow, x_ow1, x_ow2, x_rs, x_rs1, x_rs2, x_app, x_app1, x_app2, x_app3, x_sput, x_sput1, x_sput2, x_sput3, x_sput4, x_sput5, x_for, x_for1, x_run, x_fin1, x_fin2, x_fin3, x_fin4, x_fin5, x_rvi, x_rvo, x_rvr, x_rk1, x_rk2, x_ba0, x_ba1, x_ba2, x_se, x_si, x_sm, x_tupD, x_lstD, x_plusS, x_plusL, x_lenS, x_lenL, x_lenT, x_sub, x_lt, x_gt, x_le, x_ge, x_neg, x_revs, x_neB, x_eqB, x_tB, x_pkn, x_iin, x_slcS, x_slcL, x_slcT, x_memT, x_memL, x_yes, x_tms, x_mod, x_fdiv, x_sm62, x_big, x_bigL, x_par, x_par1, x_par2, x_enm, x_enm1, x_enm2, x_newT, Out.bind_ok, Out.bind_exc, Out.bind_fail, List.getElem?_cons_zero, List.getElem?_cons_succ, List.set_cons_zero, List.set_cons_succ, plusI, eqI, Option.map_some, Option.map_none, List.length_cons, List.length_nil, Nat.zero_add, Nat.add_zero, List.map_cons, List.map_nil, reduceIte, if_true, if_false, Nat.reduceAdd, Nat.reduceSub, Nat.reduceLeDiff, List.replicate_succ, List.replicate_zero, List.cons_append, List.nil_append, Bool.false_eq_true, Bool.not_true, Bool.not_false, List.getElem?_nil, Bool.and_true, Bool.true_and, bne_iff_ne, ne_eq, Nat.succ_ne_zero, not_false_eq_true, not_true_eq_false, reduceCtorEq, Nat.add_one_sub_one, eq_self, Int.reduceLT, Int.reduceLE, Int.reduceNeg, Int.reduceAdd, Int.reduceSub, Int.reduceMul, Int.reduceEq, Int.reduceBEq, Int.reduceBNe, Int.reduceMod, Int.reduceDiv, Nat.reduceEqDiff, Int.reduceToNat, decide_true, decide_false, true_and, and_true, and_self, Bool.and_self, ev', nv, ee, ne])
    exact ⟨s11', h11', by rw [eL, er]⟩
  obtain ⟨ρ', eT, d5, s2, s5, s7, s8, s9, s10, s11, _, _, _, _, _, _, er⟩ := forL_nx (t := .nm 8) (body := sSeq (sSet 9 (eCall g__law_any_value (aCons (eVar 1) (aCons (eFrz (eVar 2)) (aCons (eFrz (eVar 3)) (aCons (eC (.int 30)) aNil))))))
    (sSeq (sSet 10 (eCall g__law_any_end (aCons (eVar 1) (aCons (eFrz (eVar 2)) (aCons (eFrz (eVar 3)) aNil)))))
    (sFor (iOf (eArgs tupD (aCons (eFrz (eVar 5)) (aCons (eFrz (eVar 7)) (aCons (eFrz (eVar 5)) aNil))))) (.nm 11) (sSeq (sIf (tV (eBin neD (eCall g__law_value (aCons (eFrz (eVar 11)) (aCons (eFrz (eVar 9)) aNil))) (eCall g__law_value (aCons (eFrz (eVar 11)) (aCons (eFrz (eVar 9)) aNil))))) (sRet (eC (.bl false))) sPass)
    (sIf (tV (eBin neD (eCall g__law_end (aCons (eFrz (eVar 11)) (aCons (eFrz (eVar 10)) aNil))) (eCall g__law_end (aCons (eFrz (eVar 11)) (aCons (eFrz (eVar 10)) aNil))))) (sRet (eC (.bl false))) sPass)))))
    (l := rngD 0 4) (ρ := [.imm S, .own d4, .own (Wl ss), .imm (Pl pl), s4, .own N, s6, .own O, .non, .non, .non, .non])
    (fun j ρ => ∃ d s2 s5 s7 s8 s9 s10 s11, dealOk d ∧ ((s2 = .own (Wl ss) ∧ s5 = .own N ∧ s7 = .own O) ∨ (s2 = .imm (Wl ss) ∧ s5 = .imm N ∧ s7 = .imm O)) ∧ nim s8 ∧ nim s9 ∧ nim s10 ∧ nim s11 ∧ ρ = [.imm S, .own d, s2, .imm (Pl pl), s4, s5, s6, s7, s8, s9, s10, s11])
    ⟨d4, _, _, _, .non, .non, .non, .non, ok4, .inl ⟨rfl, rfl, rfl⟩, trivial, trivial, trivial, trivial, rfl⟩ (fun j x hx ρ hρ => by
      obtain ⟨d, s2, s5, s7, s8, s9, s10, s11, okd, hs, g8, g9, g10, g11, rfl⟩ := hρ
      obtain ⟨rfl, hj⟩ := rngD_get hx
      obtain ⟨v, d6, hv, ok6, e6⟩ := any_all (ws := ss) (pl := pl) (by omega) (by omega) 30 40 (by decide) (by decide) d 30 okd (by decide) (by decide)
      have e6' : g__law_any_value [.mt d, .imm (Wl ss), .imm (Pl pl), .imm (.int 30)] = .ret (.imm v) [.mt d6, .imm (Wl ss), .imm (Pl pl), .imm (.int 30)] := e6
      obtain ⟨e, d7, he, ok7, e7⟩ := any_end_ok (ws := ss) (pl := pl) (by omega) (by omega) ok6
      obtain ⟨s11', h11', eI⟩ := inner d7 v e (.imm (.int (0 + j))) s11 hv he g11
      refine ⟨[.imm S, .own d, s2, .imm (Pl pl), s4, s5, s6, s7, .imm (.int (0 + j)), s9, s10, s11], [.imm S, .own d7, .imm (Wl ss), .imm (Pl pl), s4, .imm N, s6, .imm O, .imm (.int (0 + j)), .imm v, .imm e, s11'], ?_, .inl ?_, d7, _, _, _, _, _, _, _, ok7, .inr ⟨rfl, rfl, rfl⟩, nim1 _, nim1 _, nim1 _, h11', rfl⟩
      · simp -implicitDefEqProofs only [g8, x_var, x_vi, x_vo, x_vp, x_c, x_rdi, x_rdo, x_rdr, x_rki, x_rko, x_rkp, x_opt, x_bin, x_bin1, x_bin2, x_bin3, x_un, x_un1, x_un2, x_frz, x_fzi, x_fzo, x_fzr, x_fki, x_fko, x_fzl, x_fzd, x_fzt, x_args, x_args1, x_args2, x_im0, x_im1, x_nil, x_cons, x_cons1, x_cons2, x_cons3, x_call, x_call1, x_call2, x_call3, x_call4, x_ta0, x_ta1, x_ta2, x_tk1, x_tk2, x_tk3, x_rf0, x_rf1, x_rf2, x_nd0, x_nd1, x_nd2, x_wb0, x_wb1, x_po0, x_po1, x_po2, x_w0, x_w1, x_w2, x_w3, x_wk1, x_wk2, x_tV, x_tV1, x_tr, x_tr1, x_tr2, x_tr3, x_not, x_not1, x_and, x_and1, x_and2, x_or, x_or1, x_or2, x_andV, x_andV1, x_andV2, x_orV, x_orV1, x_orV2, x_notV, x_notV1, x_if, x_if1, x_if2, x_pno, x_pat, x_pat1, x_slc, x_slc1, x_slc2, x_slc3, x_m1, x_m11, x_m12, x_isS, x_iof, x_iof1, x_iof2, x_itl, x_itt, x_its, x_rng, x_rng1, x_rng2, x_lc, x_lc1, x_lc2, x_tg1, x_wi0, x_wi1, x_re0, x_re1, x_gk, x_ia0, x_ia1, x_ii1, x_ii2, x_seq, x_seq1, x_seq2, x_seq3, x_seq4, x_seq5, x_pass, x_brk, x_cont, x_retN, x_nxK, x_put, x_pk1, x_pk2, x_pk3, x_set, x_set1, x_set2, x_set3, x_asg, x_asg1, x_setN, x_setTp, x_sts0, x_sts1, x_sts2, x_ifS, x_ifS1, x_ifS2, x_ret, x_ret1, x_ret2, x_exp, x_exp1, x_exp2, x_ow, x_ow1, x_ow2, x_rs, x_rs1, x_rs2, x_app, x_app1, x_app2, x_app3, x_sput, x_sput1, x_sput2, x_sput3, x_sput4, x_sput5, x_for, x_for1, x_run, x_fin1, x_fin2, x_fin3, x_fin4, x_fin5, x_rvi, x_rvo, x_rvr, x_rk1, x_rk2, x_ba0, x_ba1, x_ba2, x_se, x_si, x_sm, x_tupD, x_lstD, x_plusS, x_plusL, x_lenS, x_lenL, x_lenT, x_sub, x_lt, x_gt, x_le, x_ge, x_neg, x_revs, x_neB, x_eqB, x_tB, x_pkn, x_iin, x_slcS, x_slcL, x_slcT, x_memT, x_memL, x_yes, x_tms, x_mod, x_fdiv, x_sm62, x_big, x_bigL, x_par, x_par1, x_par2, x_enm, x_enm1, x_enm2, x_newT, Out.bind_ok, Out.bind_exc, Out.bind_fail, List.getElem?_cons_zero, List.getElem?_cons_succ, List.set_cons_zero, List.set_cons_succ, plusI, eqI, Option.map_some, Option.map_none, List.length_cons, List.length_nil, Nat.zero_add, Nat.add_zero, List.map_cons, List.map_nil, reduceIte, if_true, if_false, Nat.reduceAdd, Nat.reduceSub, Nat.reduceLeDiff, List.replicate_succ, List.replicate_zero, List.cons_append, List.nil_append, Bool.false_eq_true, Bool.not_true, Bool.not_false, List.getElem?_nil, Bool.and_true, Bool.true_and, bne_iff_ne, ne_eq, Nat.succ_ne_zero, not_false_eq_true, not_true_eq_false, reduceCtorEq, Nat.add_one_sub_one, eq_self, Int.reduceLT, Int.reduceLE, Int.reduceNeg, Int.reduceAdd, Int.reduceSub, Int.reduceMul, Int.reduceEq, Int.reduceBEq, Int.reduceBNe, Int.reduceMod, Int.reduceDiv, Nat.reduceEqDiff, Int.reduceToNat, decide_true, decide_false, true_and, and_true, and_self, Bool.and_self]
      · rcases hs with ⟨rfl, rfl, rfl⟩ | ⟨rfl, rfl, rfl⟩ <;> simp (decide := true) -implicitDefEqProofs only [x_var, x_vi, x_vo, x_vp, x_c, x_rdi, x_rdo, x_rdr, x_rki, x_rko, x_rkp, x_opt, x_bin, x_bin1, x_bin2, x_bin3, x_un, x_un1, x_un2, x_frz, x_fzi, x_fzo, x_fzr, x_fki, x_fko, x_fzl, x_fzd, x_fzt, x_args, x_args1, x_args2, x_im0, x_im1, x_nil, x_cons, x_cons1, x_cons2, x_cons3, x_call, x_call1, x_call2, x_call3, x_call4, x_ta0, x_ta1, x_ta2, x_tk1, x_tk2, x_tk3, x_rf0, x_rf1, x_rf2, x_nd0, x_nd1, x_nd2, x_wb0, x_wb1, x_po0, x_po1, x_po2, x_w0, x_w1, x_w2, x_w3, x_wk1, x_wk2, x_tV, x_tV1, x_tr, x_tr1, x_tr2, x_tr3, x_not, x_not1, x_and, x_and1, x_and2, x_or, x_or1, x_or2, x_andV, x_andV1, x_andV2, x_orV, x_orV1, x_orV2, x_notV, x_notV1, x_if, x_if1, x_if2, x_pno, x_pat, x_pat1, x_slc, x_slc1, x_slc2, x_slc3, x_m1, x_m11, x_m12, x_isS, x_iof, x_iof1, x_iof2, x_itl, x_itt, x_its, x_rng, x_rng1, x_rng2, x_lc, x_lc1, x_lc2, x_tg1, x_wi0, x_wi1, x_re0, x_re1, x_gk, x_ia0, x_ia1, x_ii1, x_ii2, x_seq, x_seq1, x_seq2, x_seq3, x_seq4, x_seq5, x_pass, x_brk, x_cont, x_retN, x_nxK, x_put, x_pk1, x_pk2, x_pk3, x_set, x_set1, x_set2, x_set3, x_asg, x_asg1, x_setN, x_setTp, x_sts0, x_sts1, x_sts2, x_ifS, x_ifS1, x_ifS2, x_ret, x_ret1, x_ret2, x_exp, x_exp1, x_exp2, x_ow, x_ow1, x_ow2, x_rs, x_rs1, x_rs2, x_app, x_app1, x_app2, x_app3, x_sput, x_sput1, x_sput2, x_sput3, x_sput4, x_sput5, x_for, x_for1, x_run, x_fin1, x_fin2, x_fin3, x_fin4, x_fin5, x_rvi, x_rvo, x_rvr, x_rk1, x_rk2, x_ba0, x_ba1, x_ba2, x_se, x_si, x_sm, x_tupD, x_lstD, x_plusS, x_plusL, x_lenS, x_lenL, x_lenT, x_sub, x_lt, x_gt, x_le, x_ge, x_neg, x_revs, x_neB, x_eqB, x_tB, x_pkn, x_iin, x_slcS, x_slcL, x_slcT, x_memT, x_memL, x_yes, x_tms, x_mod, x_fdiv, x_sm62, x_big, x_bigL, x_par, x_par1, x_par2, x_enm, x_enm1, x_enm2, x_newT, Out.bind_ok, Out.bind_exc, Out.bind_fail, List.getElem?_cons_zero, List.getElem?_cons_succ, List.set_cons_zero, List.set_cons_succ, plusI, eqI, Option.map_some, Option.map_none, List.length_cons, List.length_nil, Nat.zero_add, Nat.add_zero, List.map_cons, List.map_nil, reduceIte, if_true, if_false, Nat.reduceAdd, Nat.reduceSub, Nat.reduceLeDiff, List.replicate_succ, List.replicate_zero, List.cons_append, List.nil_append, Bool.false_eq_true, Bool.not_true, Bool.not_false, List.getElem?_nil, Bool.and_true, Bool.true_and, bne_iff_ne, ne_eq, Nat.succ_ne_zero, not_false_eq_true, not_true_eq_false, reduceCtorEq, Nat.add_one_sub_one, eq_self, Int.reduceLT, Int.reduceLE, Int.reduceNeg, Int.reduceAdd, Int.reduceSub, Int.reduceMul, Int.reduceEq, Int.reduceBEq, Int.reduceBNe, Int.reduceMod, Int.reduceDiv, Nat.reduceEqDiff, Int.reduceToNat, decide_true, decide_false, true_and, and_true, and_self, Bool.and_self, g9, g10, e6', e7, fzN, fzO, eI])
  subst er
  have h62 : small62 (1 + r) = true := x_sm62 (by simp; omega)
  have sN : small62 4 = true := rfl
  refine ⟨[.imm S], ?_⟩
  rw [← hS] at e1' ⊢
  show runG 1 12 b_law _ = _
  unfold b_law
  rw [value_eq, end_eq]
  simp (decide := true) -implicitDefEqProofs only [x_var, x_vi, x_vo, x_vp, x_c, x_rdi, x_rdo, x_rdr, x_rki, x_rko, x_rkp, x_opt, x_bin, x_bin1, x_bin2, x_bin3, x_un, x_un1, x_un2, x_frz, x_fzi, x_fzo, x_fzr, x_fki, x_fko, x_fzl, x_fzd, x_fzt, x_args, x_args1, x_args2, x_im0, x_im1, x_nil, x_cons, x_cons1, x_cons2, x_cons3, x_call, x_call1, x_call2, x_call3, x_call4, x_ta0, x_ta1, x_ta2, x_tk1, x_tk2, x_tk3, x_rf0, x_rf1, x_rf2, x_nd0, x_nd1, x_nd2, x_wb0, x_wb1, x_po0, x_po1, x_po2, x_w0, x_w1, x_w2, x_w3, x_wk1, x_wk2, x_tV, x_tV1, x_tr, x_tr1, x_tr2, x_tr3, x_not, x_not1, x_and, x_and1, x_and2, x_or, x_or1, x_or2, x_andV, x_andV1, x_andV2, x_orV, x_orV1, x_orV2, x_notV, x_notV1, x_if, x_if1, x_if2, x_pno, x_pat, x_pat1, x_slc, x_slc1, x_slc2, x_slc3, x_m1, x_m11, x_m12, x_isS, x_iof, x_iof1, x_iof2, x_itl, x_itt, x_its, x_rng, x_rng1, x_rng2, x_lc, x_lc1, x_lc2, x_tg1, x_wi0, x_wi1, x_re0, x_re1, x_gk, x_ia0, x_ia1, x_ii1, x_ii2, x_seq, x_seq1, x_seq2, x_seq3, x_seq4, x_seq5, x_pass, x_brk, x_cont, x_retN, x_nxK, x_put, x_pk1, x_pk2, x_pk3, x_set, x_set1, x_set2, x_set3, x_asg, x_asg1, x_setN, x_setTp, x_sts0, x_sts1, x_sts2, x_ifS, x_ifS1, x_ifS2, x_ret, x_ret1, x_ret2, x_exp, x_exp1, x_exp2, x_ow, x_ow1, x_ow2, x_rs, x_rs1, x_rs2, x_app, x_app1, x_app2, x_app3, x_sput, x_sput1, x_sput2, x_sput3, x_sput4, x_sput5, x_for, x_for1, x_run, x_fin1, x_fin2, x_fin3, x_fin4, x_fin5, x_rvi, x_rvo, x_rvr, x_rk1, x_rk2, x_ba0, x_ba1, x_ba2, x_se, x_si, x_sm, x_tupD, x_lstD, x_plusS, x_plusL, x_lenS, x_lenL, x_lenT, x_sub, x_lt, x_gt, x_le, x_ge, x_neg, x_revs, x_neB, x_eqB, x_tB, x_pkn, x_iin, x_slcS, x_slcL, x_slcT, x_memT, x_memL, x_yes, x_tms, x_mod, x_fdiv, x_sm62, x_big, x_bigL, x_par, x_par1, x_par2, x_enm, x_enm1, x_enm2, x_newT, Out.bind_ok, Out.bind_exc, Out.bind_fail, List.getElem?_cons_zero, List.getElem?_cons_succ, List.set_cons_zero, List.set_cons_succ, plusI, eqI, Option.map_some, Option.map_none, List.length_cons, List.length_nil, Nat.zero_add, Nat.add_zero, List.map_cons, List.map_nil, reduceIte, if_true, if_false, Nat.reduceAdd, Nat.reduceSub, Nat.reduceLeDiff, List.replicate_succ, List.replicate_zero, List.cons_append, List.nil_append, Bool.false_eq_true, Bool.not_true, Bool.not_false, List.getElem?_nil, Bool.and_true, Bool.true_and, bne_iff_ne, ne_eq, Nat.succ_ne_zero, not_false_eq_true, not_true_eq_false, reduceCtorEq, Nat.add_one_sub_one, eq_self, Int.reduceLT, Int.reduceLE, Int.reduceNeg, Int.reduceAdd, Int.reduceSub, Int.reduceMul, Int.reduceEq, Int.reduceBEq, Int.reduceBNe, Int.reduceMod, Int.reduceDiv, Nat.reduceEqDiff, Int.reduceToNat, decide_true, decide_false, true_and, and_true, and_self, Bool.and_self, e1', e2', e3, h62, eP, hset, eN, ← hNe, g6, eO, eD, sN, show Int.toNat 4 = 4 from rfl, eT]
end K31


open PySem PySem.W PyProof.Rows
set_option maxHeartbeats 0 in
theorem PySem.Challenge.cw_sideturn_k31_values_read_by_names_holds : PySem.Challenge.rw_sideturn_k31_values_read_by_names.Holds := by
  w_on; o_law; k_head; (case hw => w_witness2)
  k_fill
  refine L2.walk_ofB (l := PySem.Challenge.rw_sideturn_k31_values_read_by_names) (n := 63) (k := 44) (x := "_law_script") (CX := fun w => L2.CX PySem.Challenge.rw_sideturn_k31_values_read_by_names.prog w) (sp := fun w => PF.lawSp _ K31.g_law) rfl (by decide) rfl ⟨rfl, by decide, by decide⟩ (fun w h Y => PySem.W.kIn_of Y) ?F (fun _ _ a ns hl hb hO hS => PF.lawSp_go hO hS (K31.law_true ns hl hb)) (fun _ _ _ _ _ h => PF.noCX h)
  case F =>
    intro w mg fa h KX G hmg
    refine' K31.all_mk KX G hmg ?a0 ?l0 ?c0 ?k0 ?a1 ?l1 ?c1 ?k1 ?a2 ?l2 ?c2 ?k2 ?a3 ?l3 ?c3 ?k3 ?a4 ?l4 ?c4 ?k4 ?a5 ?l5 ?c5 ?k5 ?a6 ?l6 ?c6 ?k6 ?a7 ?l7 ?c7 ?k7 ?a8 ?l8 ?c8 ?k8 ?a9 ?l9 ?c9 ?k9 ?a10 ?l10 ?c10 ?k10 ?a11 ?l11 ?c11 ?k11 ?a12 ?l12 ?c12 ?k12 ?z_dict ?z_enumerate ?z_int ?z_isinstance ?z_len ?z_list ?z_max ?z_range ?z_reversed ?z_set ?z_sorted ?z_tuple
    (case a0 => k_is); (case l0 => k_is); (case c0 => k_is); (case k0 => k_is); (case a1 => k_is); (case l1 => k_is); (case c1 => k_is); (case k1 => k_is); (case a2 => k_is); (case l2 => k_is); (case c2 => k_is); (case k2 => k_is); (case a3 => k_is); (case l3 => k_is); (case c3 => k_is); (case k3 => k_is); (case a4 => k_is); (case l4 => k_is); (case c4 => k_is); (case k4 => k_is); (case a5 => k_is); (case l5 => k_is); (case c5 => k_is); (case k5 => k_is); (case a6 => k_is); (case l6 => k_is); (case c6 => k_is); (case k6 => k_is); (case a7 => k_is); (case l7 => k_is); (case c7 => k_is); (case k7 => k_is); (case a8 => k_is); (case l8 => k_is); (case c8 => k_is); (case k8 => k_is); (case a9 => k_is); (case l9 => k_is); (case c9 => k_is); (case k9 => k_is); (case a10 => k_is); (case l10 => k_is); (case c10 => k_is); (case k10 => k_is); (case a11 => k_is); (case l11 => k_is); (case c11 => k_is); (case k11 => k_is); (case a12 => k_is); (case l12 => k_is); (case c12 => k_is); (case k12 => k_is); (case z_dict => k_is); (case z_enumerate => k_is); (case z_int => k_is); (case z_isinstance => k_is); (case z_len => k_is); (case z_list => k_is); (case z_max => k_is); (case z_range => k_is); (case z_reversed => k_is); (case z_set => k_is); (case z_sorted => k_is); (case z_tuple => k_is)
