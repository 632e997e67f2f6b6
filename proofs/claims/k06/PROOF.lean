import PyProof.Rows.All
import Wide.All
import OpenK.AllK
import Wide.FinOn
import HandS.ForMost
import HandS.ForExc
import HandS.ExcInit
import HandS.Wide
import HandS.Conv
import HandS.TupAny
import HandS.ExcCtx
import HandS.RevTup
import HandS.IsInst
import PyProof.NeKinds
import HandS.Style
import PyProof.Rows.StrMul
import HandS.Small
import HandS.EndBits
import HandS.Zip0
import PyProof.Draws
import PyProof.EnumMake
import HandS.TupSets
import KE.KDictPairs
import HandS.Zip
import HandS.More
import KE.GoesEnum
import KE.KDictZip
import KE.KMinKey
import KE.KIntText
import HandS.SortKw
import HandS.Codes
import KE.KExcIs
import HandS.ExcOwn
import HandS.ExcField
import HandS.ExcIs
import HandS.SuiteRaise
import HandS.RaiseFrom
import PySem.Challenge.RW_sideturn_k06_refusals
set_option Elab.async false
set_option linter.all false
set_option maxRecDepth 100000
set_option maxHeartbeats 4123456
namespace PF
open PySem L2

abbrev DK := Sum Int (List Nat)
inductive D where
  | non | bl (b : Bool) | int (i : Int) | str (s : List Nat)
  | tup (l : List D) | lst (l : List D)
  | dct (kvs : List (DK × D)) | dcT (kvs : List (List DK × D))
  /-- the law's own dealer: a dict of the seed, the number at hand, the great numbers left -/
  | deal (seed number : Int) (left : List Int)
  /-- an instance of an own class: the class's name, its names -/
  | obj (c : Str) (fs : List (Str × D))

def mkS (l : List Nat) : Str := ⟨l.toArray⟩
theorem mkS_inj {a b : List Nat} (h : mkS a = mkS b) : a = b := by
  have := congrArg Str.cps h
  simpa [mkS] using this
theorem mkS_cps (x : Str) : mkS x.cps.toList = x := by
  cases x; simp [mkS]
def toK : DK → Key
  | .inl i => .inl i
  | .inr s => .inr (mkS s)

/-- things (text, tuple): a tuple of such is told with its object, which has no names of its own -/
def pairyE : D → Bool
  | .tup [.str _, .tup _] => true
  | _ => false
def pairy (l : List D) : Bool := !l.isEmpty && l.all pairyE
def tupHO (b : Bool) (o : Obj) (vs : List V) : HO := if b then .frz o (.tup vs) else .tup vs
def TupR (l : List D) (H : Hp) (a : Addr) (vs : List V) : Prop := ∃ o : Obj, H a = some (tupHO (pairy l) o vs) ∧ o.dict = none
theorem TupR.plain {l : List D} {H : Hp} {a : Addr} {vs : List V} (h : H a = some (.tup vs)) (hp : pairy l = false) : TupR l H a vs := ⟨{ cls := .none, data := .fields #[] }, by rw [hp]; exact h, rfl⟩
theorem TupR.key {l : List D} {H : Hp} {a : Addr} {vs : List V} (h : TupR l H a vs) (hp : pairy l = false) : H a = some (.tup vs) := by
  obtain ⟨o, e, _⟩ := h
  rw [hp] at e; exact e
theorem SqT.of {K : PySem.W.Frag} {l : List D} {H : Hp} {a : Addr} {vs : List V} (h : TupR l H a vs) : SqT K H a vs := by
  obtain ⟨o, e, _⟩ := h
  unfold tupHO at e
  split at e
  · exact .inl (.inr ⟨o, e⟩)
  · exact .inl (.inl e)
theorem tupHO_ok {P : Program} {w : World} {H : Hp} {h : Heap} {a : Addr} {b : Bool} {o : Obj} {vs : List V} (h1 : h.get? a = some o) (h2 : ObjOk P w H h a (.tup vs)) : ObjOk P w H h a (tupHO b o vs) := by
  unfold tupHO
  split
  · exact ⟨h1, h2⟩
  · exact h2
def KL (K : PySem.W.Frag) (a : Addr) (vs : List V) : Prop := ∀ H, SqL K H a vs
def ImL (K : PySem.W.Frag) (H : Hp) (a : Addr) (vs : List V) : Prop := (∃ o, H a = some (.frz o (.lst vs))) ∨ KL K a vs

mutual
def RI (K : PySem.W.Frag) (H : Hp) : D → V → Prop
  | .non, v => v = .non
  | .bl b, v => v = .bl b
  | .int i, v => v = .int i
  | .str s, v => v = .str (mkS s)
  | .tup l, v => ∃ a vs, v = .ref a ∧ TupR l H a vs ∧ RIs K H l vs
  | .lst l, v => ∃ a vs, v = .ref a ∧ ImL K H a vs ∧ RIs K H l vs
  | .dct l, v => ∃ a o vs, v = .ref a ∧ H a = some (.frz o (.dK vs)) ∧ RIk K H l vs
  | .dcT l, v => ∃ a o vs, v = .ref a ∧ H a = some (.frz o (.dT vs)) ∧ RIt K H l vs
  | .deal _ _ _, _ => False
  | .obj _ _, _ => False
def RIs (K : PySem.W.Frag) (H : Hp) : List D → List V → Prop
  | [], vs => vs = []
  | d :: l, vs => ∃ v r, vs = v :: r ∧ RI K H d v ∧ RIs K H l r
def RIk (K : PySem.W.Frag) (H : Hp) : List (DK × D) → List (Key × V) → Prop
  | [], vs => vs = []
  | (k, d) :: l, vs => ∃ v r, vs = (toK k, v) :: r ∧ RI K H d v ∧ RIk K H l r
def RIt (K : PySem.W.Frag) (H : Hp) : List (List DK × D) → List (List Key × V) → Prop
  | [], vs => vs = []
  | (k, d) :: l, vs => ∃ v r, vs = (k.map toK, v) :: r ∧ RI K H d v ∧ RIt K H l r
end

structure Ext (H H' : Hp) : Prop where
  t : ∀ b xs, H b = some (.tup xs) → H' b = some (.tup xs)
  f : ∀ b o u, H b = some (.frz o u) → H' b = some (.frz o u)
  x : ∀ b fs, H b = some (.xd fs) → H' b = some (.xd fs)
theorem Ext.refl (H : Hp) : Ext H H := ⟨fun _ _ h => h, fun _ _ _ h => h, fun _ _ h => h⟩
theorem Ext.trans {H H1 H2 : Hp} (a : Ext H H1) (b : Ext H1 H2) : Ext H H2 := ⟨fun c xs h => b.t c xs (a.t c xs h), fun c o u h => b.f c o u (a.f c o u h), fun c fs h => b.x c fs (a.x c fs h)⟩

section
variable {K : PySem.W.Frag} {H H' : Hp}
theorem TupR.mono (e : Ext H H') {l : List D} {a : Addr} {vs : List V} (h : TupR l H a vs) : TupR l H' a vs := by
  obtain ⟨o, q, z⟩ := h
  refine ⟨o, ?_, z⟩
  unfold tupHO at q ⊢
  split at q
  · rename_i c
    rw [if_pos c]; exact e.f _ _ _ q
  · rename_i c
    rw [if_neg c]; exact e.t _ _ q
theorem ImL.mono (e : Ext H H') {a : Addr} {vs : List V} (h : ImL K H a vs) : ImL K H' a vs := h.imp (fun ⟨o, q⟩ => ⟨o, e.f _ _ _ q⟩) id
theorem ImL.sq {a : Addr} {vs : List V} (h : ImL K H a vs) : SqL K H a vs := h.elim (fun ⟨o, q⟩ => .inl (.inr ⟨o, q⟩)) fun h => h H
mutual
theorem RI.mono (e : Ext H H') : ∀ {d : D} {v : V}, RI K H d v → RI K H' d v
  | .non, _, h => h
  | .bl _, _, h => h
  | .int _, _, h => h
  | .str _, _, h => h
  | .tup _, _, ⟨a, vs, h1, h2, h3⟩ => ⟨a, vs, h1, h2.mono e, RIs.mono e h3⟩
  | .lst _, _, ⟨a, vs, h1, h2, h3⟩ => ⟨a, vs, h1, h2.mono e, RIs.mono e h3⟩
  | .dct _, _, ⟨a, o, vs, h1, h2, h3⟩ => ⟨a, o, vs, h1, e.f _ _ _ h2, RIk.mono e h3⟩
  | .dcT _, _, ⟨a, o, vs, h1, h2, h3⟩ => ⟨a, o, vs, h1, e.f _ _ _ h2, RIt.mono e h3⟩
  | .deal _ _ _, _, h => h
  | .obj _ _, _, h => h
theorem RIs.mono (e : Ext H H') : ∀ {l : List D} {vs : List V}, RIs K H l vs → RIs K H' l vs
  | [], _, h => h
  | _ :: _, _, ⟨v, r, h1, h2, h3⟩ => ⟨v, r, h1, RI.mono e h2, RIs.mono e h3⟩
theorem RIk.mono (e : Ext H H') : ∀ {l : List (DK × D)} {vs : List (Key × V)}, RIk K H l vs → RIk K H' l vs
  | [], _, h => h
  | (_, _) :: _, _, ⟨v, r, h1, h2, h3⟩ => ⟨v, r, h1, RI.mono e h2, RIk.mono e h3⟩
theorem RIt.mono (e : Ext H H') : ∀ {l : List (List DK × D)} {vs : List (List Key × V)}, RIt K H l vs → RIt K H' l vs
  | [], _, h => h
  | (_, _) :: _, _, ⟨v, r, h1, h2, h3⟩ => ⟨v, r, h1, RI.mono e h2, RIt.mono e h3⟩
end
end

def RIf (K : PySem.W.Frag) (H : Hp) : List (Str × D) → List (Str × V) → Prop
  | [], vs => vs = []
  | (k, d) :: l, vs => ∃ v r, vs = (k, v) :: r ∧ RI K H d v ∧ RIf K H l r
theorem RIf.mono {K : PySem.W.Frag} {H H' : Hp} (e : Ext H H') : ∀ {l : List (Str × D)} {vs : List (Str × V)}, RIf K H l vs → RIf K H' l vs
  | [], _, h => h
  | (_, _) :: _, _, ⟨v, r, h1, h2, h3⟩ => ⟨v, r, h1, RI.mono e h2, RIf.mono e h3⟩
/-- where the class of a name stands -/
def ClsAt (K : PySem.W.Frag) (c : Str) (C : Addr) : Prop := PySem.W.nsIn K mainGlobals c = some (some (.ref C))
/-! ### what may be written: where it stands -/
abbrev FS := Addr → Prop
def dealK (sd nm : Int) (b : Addr) : List (Key × V) := [(.inr (mkS [115, 101, 101, 100]), .int sd), (.inr (mkS [110, 117, 109, 98, 101, 114]), .int nm), (.inr (mkS [108, 101, 102, 116]), .ref b)]
def OwnR (K : PySem.W.Frag) (H : Hp) (S : FS) : D → V → Prop
  | .lst l, v => ∃ a vs, v = .ref a ∧ S a ∧ H a = some (.lst vs) ∧ RIs K H l vs
  | .dct l, v => ∃ a vs, v = .ref a ∧ S a ∧ H a = some (.dK vs) ∧ RIk K H l vs
  | .dcT l, v => ∃ a vs, v = .ref a ∧ S a ∧ H a = some (.dT vs) ∧ RIt K H l vs
  | .deal sd nm lf, v => ∃ a b, v = .ref a ∧ S a ∧ S b ∧ H a = some (.dK (dealK sd nm b)) ∧ H b = some (.lst (lf.map V.int))
  | .obj c fs, v => ∃ (a dx C : Addr) (fv : List (Str × V)), v = .ref a ∧ S a ∧ S dx ∧ ClsAt K c C ∧ H a = some (exo a C (some dx)) ∧ H dx = some (exd dx fv) ∧ RIf K H fs fv
  | _, _ => False
/-- what may be read -/
def RdR (K : PySem.W.Frag) (H : Hp) : D → V → Prop
  | .tup l, v => ∃ a vs, v = .ref a ∧ TupR l H a vs ∧ RIs K H l vs
  | .lst l, v => ∃ a vs, v = .ref a ∧ SqL K H a vs ∧ RIs K H l vs
  | .dct l, v => ∃ a vs, v = .ref a ∧ Rd H a (.dK vs) ∧ RIk K H l vs
  | .dcT l, v => ∃ a vs, v = .ref a ∧ Rd H a (.dT vs) ∧ RIt K H l vs
  | .non, v => v = .non
  | .bl b, v => v = .bl b
  | .int i, v => v = .int i
  | .str s, v => v = .str (mkS s)
  | .deal sd nm lf, v => ∃ a b, v = .ref a ∧ Rd H a (.dK (dealK sd nm b)) ∧ SqL K H b (lf.map V.int)
  | .obj c fs, v => ∃ (a dx C : Addr) (fv : List (Str × V)), v = .ref a ∧ ClsAt K c C ∧ H a = some (exo a C (some dx)) ∧ H dx = some (exd dx fv) ∧ RIf K H fs fv
section
variable {K : PySem.W.Frag} {H H' : Hp} {S S' : FS}
theorem RI.rd {d : D} {v : V} (h : RI K H d v) : RdR K H d v := by
  cases d with
  | tup l => obtain ⟨a, vs, h1, h2, h3⟩ := h; exact ⟨a, vs, h1, h2, h3⟩
  | lst l => obtain ⟨a, vs, h1, h2, h3⟩ := h; exact ⟨a, vs, h1, h2.sq, h3⟩
  | dct l => obtain ⟨a, o, vs, h1, h2, h3⟩ := h; exact ⟨a, vs, h1, .inr ⟨o, h2⟩, h3⟩
  | dcT l => obtain ⟨a, o, vs, h1, h2, h3⟩ := h; exact ⟨a, vs, h1, .inr ⟨o, h2⟩, h3⟩
  | deal _ _ _ => exact False.elim h
  | obj _ _ => exact False.elim h
  | _ => exact h
theorem OwnR.rd {d : D} {v : V} (h : OwnR K H S d v) : RdR K H d v := by
  cases d with
  | lst l => obtain ⟨a, vs, h1, _, h2, h3⟩ := h; exact ⟨a, vs, h1, SqL.of h2, h3⟩
  | dct l => obtain ⟨a, vs, h1, _, h2, h3⟩ := h; exact ⟨a, vs, h1, .inl h2, h3⟩
  | dcT l => obtain ⟨a, vs, h1, _, h2, h3⟩ := h; exact ⟨a, vs, h1, .inl h2, h3⟩
  | deal _ _ _ => obtain ⟨a, b, h1, _, _, h2, h3⟩ := h; exact ⟨a, b, h1, .inl h2, SqL.of h3⟩
  | obj c fs => obtain ⟨a, dx, C, fv, h1, _, _, h2, h3, h4⟩ := h; exact ⟨a, dx, C, fv, h1, h2, h3, h4⟩
  | _ => exact False.elim h
theorem OwnR.keep {d : D} {v : V} (h : OwnR K H S d v) (k : ∀ b o, S b → H b = some o → H' b = some o) (e : Ext H H') : OwnR K H' S d v := by
  cases d with
  | lst l => obtain ⟨a, vs, h1, s, h2, h3⟩ := h; exact ⟨a, vs, h1, s, k _ _ s h2, h3.mono e⟩
  | dct l => obtain ⟨a, vs, h1, s, h2, h3⟩ := h; exact ⟨a, vs, h1, s, k _ _ s h2, h3.mono e⟩
  | dcT l => obtain ⟨a, vs, h1, s, h2, h3⟩ := h; exact ⟨a, vs, h1, s, k _ _ s h2, h3.mono e⟩
  | deal sd nm lf => obtain ⟨a, b, h1, s1, s2, h2, h3⟩ := h; exact ⟨a, b, h1, s1, s2, k _ _ s1 h2, k _ _ s2 h3⟩
  | obj c fs => obtain ⟨a, dx, C, fv, h1, s, s2, h2, h3, h5, h4⟩ := h; exact ⟨a, dx, C, fv, h1, s, s2, h2, k _ _ s h3, k _ _ s2 h5, RIf.mono e h4⟩
  | _ => exact False.elim h
theorem OwnR.more {d : D} {v : V} (h : OwnR K H S d v) (k : ∀ b, S b → S' b) : OwnR K H S' d v := by
  cases d with
  | lst l => obtain ⟨a, vs, h1, s, h2, h3⟩ := h; exact ⟨a, vs, h1, k _ s, h2, h3⟩
  | dct l => obtain ⟨a, vs, h1, s, h2, h3⟩ := h; exact ⟨a, vs, h1, k _ s, h2, h3⟩
  | dcT l => obtain ⟨a, vs, h1, s, h2, h3⟩ := h; exact ⟨a, vs, h1, k _ s, h2, h3⟩
  | deal sd nm lf => obtain ⟨a, b, h1, s1, s2, h2, h3⟩ := h; exact ⟨a, b, h1, k _ s1, k _ s2, h2, h3⟩
  | obj c fs => obtain ⟨a, dx, C, fv, h1, s, s2, h2, h3, h4⟩ := h; exact ⟨a, dx, C, fv, h1, k _ s, k _ s2, h2, h3, h4⟩
  | _ => exact False.elim h
end

/-! ### slots -/
structure Xc where
  cls : Str
  fs : List (Str × D)
/-- an exception's own names -/
def XdR (K : PySem.W.Frag) (H : Hp) (d : Option Addr) (fs : List (Str × D)) : Prop := (fs = [] ∧ d = none) ∨ ∃ dd vs, d = some dd ∧ H dd = some (.xd vs) ∧ RIf K H fs vs
theorem XdR.mono {K : PySem.W.Frag} {H H' : Hp} (e : Ext H H') {d : Option Addr} {fs : List (Str × D)} (h : XdR K H d fs) : XdR K H' d fs := by
  rcases h with h | ⟨dd, vs, h1, h2, h3⟩
  · exact .inl h
  · exact .inr ⟨dd, vs, h1, e.x _ _ h2, RIf.mono e h3⟩
inductive Sl where
  | non | imm (d : D) | own (d : D) | par (d : D)
  /-- a caught exception at a, its dict at d, its names -/
  | xcp (a : Addr) (d : Option Addr) (fs : List (Str × D))
abbrev Env := List Sl
def SlR (K : PySem.W.Frag) (H : Hp) (S : FS) (pin : Option V) : Sl → Option V → Prop
  | .non, _ => True
  | .imm d, o => ∃ v, o = some v ∧ RI K H d v
  | .own d, o => ∃ v, o = some v ∧ OwnR K H S d v
  | .par d, o => ∃ v, o = some v ∧ pin = some v ∧ OwnR K H S d v
  | .xcp a d fs, o => o = some (.ref a) ∧ XdR K H d fs
def Un (F : Nat → FS) : FS := fun a => ∃ i, F i a
structure EnvR (K : PySem.W.Frag) (P : Nat → Option V) (H : Hp) (F : Nat → FS) (ρ : Env) (σ : St) : Prop where
  len : σ.length = ρ.length
  sl : ∀ i s, ρ[i]? = some s → SlR K H (F i) (P i) s σ[i]?.join
  dj : ∀ i j a, F i a → F j a → i = j
  dom : ∀ i a, F i a → H a ≠ none
/-- from one heap to a later one: U may have changed, U' may be changed from now on -/
structure Frm (U U' : FS) (H H' : Hp) : Prop where
  keep : ∀ b o, ¬ U b → H b = some o → H' b = some o
  ext : Ext H H'
  dom : ∀ b, H b ≠ none → H' b ≠ none
  sub : ∀ b, U' b → U b ∨ H b = none
/-- all stays, S is new -/
structure Grow (S : FS) (H H' : Hp) : Prop where
  keep : ∀ b o, H b = some o → H' b = some o
  new : ∀ a, S a → H a = none
theorem Grow.ext {S : FS} {H H' : Hp} (g : Grow S H H') : Ext H H' := ⟨fun _ _ h => g.keep _ _ h, fun _ _ _ h => g.keep _ _ h, fun _ _ h => g.keep _ _ h⟩
theorem Grow.dom {S : FS} {H H' : Hp} (g : Grow S H H') : ∀ b, H b ≠ none → H' b ≠ none := fun b h => by
  cases q : H b with
  | none => exact absurd q h
  | some o => rw [g.keep b o q]; exact fun z => nomatch z
theorem Grow.refl {S : FS} {H : Hp} (h : ∀ a, ¬ S a) : Grow S H H := ⟨fun _ _ h => h, fun a s => absurd s (h a)⟩
theorem Grow.same {S : FS} {H H' : Hp} (g : Grow S H H') : Same H H' := g.keep
theorem Frm.refl (U : FS) (H : Hp) : Frm U U H H := ⟨fun _ _ _ h => h, Ext.refl H, fun _ h => h, fun _ h => .inl h⟩
theorem Frm.trans {U U1 U2 : FS} {H H1 H2 : Hp} (a : Frm U U1 H H1) (b : Frm U1 U2 H1 H2) : Frm U U2 H H2 where
  keep := fun c o n h => b.keep c o (fun z => (a.sub c z).elim n fun q => by rw [q] at h; cases h) (a.keep c o n h)
  ext := a.ext.trans b.ext
  dom := fun c h => b.dom c (a.dom c h)
  sub := fun c h => by
    rcases b.sub c h with z | z
    · exact a.sub c z
    · refine .inr ?_
      cases q : H c with
      | none => rfl
      | some o => exact absurd z (a.dom c (by rw [q]; exact fun z => nomatch z))
theorem Frm.less {U U1 U2 : FS} {H H1 : Hp} (a : Frm U U1 H H1) (h : ∀ b, U2 b → U1 b) : Frm U U2 H H1 := ⟨a.keep, a.ext, a.dom, fun b z => a.sub b (h b z)⟩
theorem Frm.of_grow {U S : FS} {H H' : Hp} (g : Grow S H H') : Frm U (fun a => U a ∨ S a) H H' := ⟨fun b o _ h => g.keep b o h, g.ext, g.dom, fun b h => h.imp id (g.new b)⟩
theorem join_some {α : Type} {o : Option (Option α)} {v : α} (h : o.join = some v) : o = some (some v) := by
  cases o with
  | none => cases h
  | some x => cases x with
    | none => cases h
    | some y => cases h; rfl
section
variable {K : PySem.W.Frag} {P : Nat → Option V} {H H' : Hp} {F : Nat → FS} {ρ : Env} {σ : St} {S : FS}
theorem SlR.keep {pin : Option V} {s : Sl} {o : Option V} (h : SlR K H S pin s o) (k : ∀ b o, S b → H b = some o → H' b = some o) (e : Ext H H') : SlR K H' S pin s o := by
  cases s with
  | non => trivial
  | imm d => obtain ⟨v, h1, h2⟩ := h; exact ⟨v, h1, h2.mono e⟩
  | own d => obtain ⟨v, h1, h2⟩ := h; exact ⟨v, h1, h2.keep k e⟩
  | par d => obtain ⟨v, h1, h0, h2⟩ := h; exact ⟨v, h1, h0, h2.keep k e⟩
  | xcp a d fs => exact ⟨h.1, h.2.mono e⟩
theorem EnvR.keep (E : EnvR K P H F ρ σ) (k : ∀ b o, Un F b → H b = some o → H' b = some o) (e : Ext H H') (d : ∀ b, H b ≠ none → H' b ≠ none) : EnvR K P H' F ρ σ :=
  ⟨E.len, fun i s h => (E.sl i s h).keep (fun b o q => k b o ⟨i, q⟩) e, E.dj, fun i a h => d a (E.dom i a h)⟩
theorem EnvR.grow (E : EnvR K P H F ρ σ) (g : Grow S H H') : EnvR K P H' F ρ σ := E.keep (fun b o _ h => g.keep b o h) g.ext g.dom
end

/-! ### values -/
inductive Vl where
  | imm (d : D) | own (d : D) | ref (i : Nat)
def VlR (K : PySem.W.Frag) (σ : St) (H : Hp) (S : FS) : Vl → V → Prop
  | .imm d, u => RI K H d u
  | .own d, u => OwnR K H S d u ∧ ∀ a, S a → H a ≠ none
  | .ref i, u => σ[i]? = some (some u)
def VlN (K : PySem.W.Frag) (H : Hp) (S : FS) : Vl → V → Prop
  | .imm d, u => RI K H d u
  | .own d, u => OwnR K H S d u ∧ ∀ a, S a → H a ≠ none
  | .ref _, _ => False
def rd (ρ : Env) : Vl → Option D
  | .imm d => some d
  | .own d => some d
  | .ref i => match ρ[i]? with
    | some (.imm d) => some d
    | some (.own d) => some d
    | some (.par d) => some d
    | _ => none
section
variable {K : PySem.W.Frag} {P : Nat → Option V} {H H' : Hp} {F F' : Nat → FS} {ρ : Env} {σ : St} {S U' : FS} {v : Vl} {u : V} {d : D}
theorem VlN.vl (h : VlN K H S v u) : VlR K σ H S v u := by
  cases v with
  | imm d => exact h
  | own d => exact h
  | ref i => exact False.elim h
theorem rd_ok (E : EnvR K P H F ρ σ) (r : VlR K σ H S v u) (h : rd ρ v = some d) : RdR K H d u := by
  cases v with
  | imm d' => cases h; exact RI.rd r
  | own d' => cases h; exact r.1.rd
  | ref i =>
    have r' : σ[i]? = some (some u) := r
    unfold rd at h
    cases q : ρ[i]? with
    | none => simp [q] at h
    | some s =>
      have z := E.sl i s q
      rw [r'] at z
      cases s with
      | non => simp [q] at h
      | xcp _ _ _ => simp [q] at h
      | imm d' => simp [q] at h; subst h; obtain ⟨w, e, x⟩ := z; cases e; exact x.rd
      | own d' => simp [q] at h; subst h; obtain ⟨w, e, x⟩ := z; cases e; exact x.rd
      | par d' => simp [q] at h; subst h; obtain ⟨w, e, _, x⟩ := z; cases e; exact x.rd
theorem VlR.keep (r : VlR K σ H S v u) (dj : ∀ i a, F i a → ¬ S a) (f : Frm (Un F) U' H H') : VlR K σ H' S v u := by
  cases v with
  | imm d => exact RI.mono f.ext r
  | own d => exact ⟨r.1.keep (fun b o s h => f.keep b o (fun ⟨i, z⟩ => dj i b z s) h) f.ext, fun a s => f.dom a (r.2 a s)⟩
  | ref i => exact r
end

/-! ### what a piece of text comes to -/
def XcR (K : PySem.W.Frag) (mg : Str → Option Value) (H : Hp) (x : Xc) (cls : Value) (d : Option Addr) : Prop :=
  ∃ C : Addr, mg x.cls = some (.ref C) ∧ cls = .ref C ∧ XdR K H d x.fs
inductive Out (α : Type) where
  | ok (a : α) (ρ : Env) | exc (x : Xc) (ρ : Env) | fail
def Out.bind {α β : Type} : Out α → (α → Env → Out β) → Out β
  | .ok a ρ, f => f a ρ
  | .exc x ρ, _ => .exc x ρ
  | .fail, _ => .fail
@[simp] theorem Out.bind_ok {α β : Type} (a : α) (ρ : Env) (f : α → Env → Out β) : (Out.ok a ρ).bind f = f a ρ := rfl
@[simp] theorem Out.bind_exc {α β : Type} (x : Xc) (ρ : Env) (f : α → Env → Out β) : (Out.exc x ρ : Out α).bind f = .exc x ρ := rfl
@[simp] theorem Out.bind_fail {α β : Type} (f : α → Env → Out β) : (Out.fail : Out α).bind f = .fail := rfl
abbrev SE := Env → Out Vl
abbrev ST := Env → Out Bool
abbrev SA := Env → Out (List Vl)
inductive SOut where
  | nx (ρ : Env) | rt (v : Vl) (ρ : Env) | bk (ρ : Env) | ct (ρ : Env) | exc (x : Xc) (ρ : Env) | fail
abbrev SS := Env → SOut
def PostO (K : PySem.W.Frag) (mg : Str → Option Value) (P : Nat → Option V) (W : WX) (σ : St) {α β : Type} (R : Hp → FS → α → β → Prop) (Q : β → Hp → Prop) (F : Nat → FS) (H : Hp) : Out α → Prop
  | .ok a ρ' => ∀ u H' F' S, EnvR K P H' F' ρ' σ → R H' S a u → (∀ i a, F' i a → ¬ S a) → Frm (Un F) (fun a => Un F' a ∨ S a) H H' → Q u H'
  | .exc x ρ' => ∀ cls d H' F', EnvR K P H' F' ρ' σ → XcR K mg H' x cls d → Frm (Un F) (Un F') H H' → W cls d σ H'
  | .fail => False
def PostS (K : PySem.W.Frag) (mg : Str → Option Value) (P : Nat → Option V) (W : WX) (D : Ends) (F : Nat → FS) (H : Hp) : SOut → Prop
  | .nx ρ' => ∀ σ' H' F', EnvR K P H' F' ρ' σ' → Frm (Un F) (Un F') H H' → D.nx σ' H'
  | .bk ρ' => ∀ σ' H' F', EnvR K P H' F' ρ' σ' → Frm (Un F) (Un F') H H' → D.bk σ' H'
  | .ct ρ' => ∀ σ' H' F', EnvR K P H' F' ρ' σ' → Frm (Un F) (Un F') H H' → D.ct σ' H'
  | .rt v ρ' => ∀ u σ' H' F' S, EnvR K P H' F' ρ' σ' → VlR K σ' H' S v u → (∀ i a, F' i a → ¬ S a) → Frm (Un F) (fun a => Un F' a ∨ S a) H H' → D.rt u H'
  | .exc x ρ' => ∀ cls d σ' H' F', EnvR K P H' F' ρ' σ' → XcR K mg H' x cls d → Frm (Un F) (Un F') H H' → W cls d σ' H'
  | .fail => False
theorem Frm.step {F F1 : Nat → FS} {S1 U2 : FS} {H H1 H2 : Hp} (a : Frm (Un F) (fun a => Un F1 a ∨ S1 a) H H1) (b : Frm (Un F1) U2 H1 H2) : Frm (Un F) U2 H H2 := (a.less fun _ h => .inl h).trans b
theorem PostO.from {K : PySem.W.Frag} {mg : Str → Option Value} {P : Nat → Option V} {W : WX} {σ : St} {α β : Type} {R : Hp → FS → α → β → Prop} {Q : β → Hp → Prop} {F F1 : Nat → FS} {S1 : FS} {H H1 : Hp} {o : Out α}
    (h : PostO K mg P W σ R Q F H o) (f : Frm (Un F) (fun a => Un F1 a ∨ S1 a) H H1) : PostO K mg P W σ R Q F1 H1 o := by
  cases o with
  | ok a ρ' => exact fun u H' F' S e r dj g => h u H' F' S e r dj (f.step g)
  | exc x ρ' => exact fun cls d H' F' e r g => h cls d H' F' e r (f.step g)
  | fail => exact h
theorem PostS.from {K : PySem.W.Frag} {mg : Str → Option Value} {P : Nat → Option V} {W : WX} {D : Ends} {F F1 : Nat → FS} {S1 : FS} {H H1 : Hp} {o : SOut}
    (h : PostS K mg P W D F H o) (f : Frm (Un F) (fun a => Un F1 a ∨ S1 a) H H1) : PostS K mg P W D F1 H1 o := by
  cases o with
  | nx ρ' => exact fun σ' H' F' e g => h σ' H' F' e (f.step g)
  | bk ρ' => exact fun σ' H' F' e g => h σ' H' F' e (f.step g)
  | ct ρ' => exact fun σ' H' F' e g => h σ' H' F' e (f.step g)
  | rt v ρ' => exact fun u σ' H' F' S e r dj g => h u σ' H' F' S e r dj (f.step g)
  | exc x ρ' => exact fun cls d σ' H' F' e r g => h cls d σ' H' F' e r (f.step g)
  | fail => exact h

/-! ### the judgements -/
def SdE (K : PySem.W.Frag) (mg : Str → Option Value) (W : WX) (te : TE) (se : SE) : Prop := ∀ P σ H F ρ Q, EnvR K P H F ρ σ → PostO K mg P W σ (VlR K σ) Q F H (se ρ) → te σ H Q
def SdT (K : PySem.W.Frag) (mg : Str → Option Value) (W : WX) (te : TT) (se : ST) : Prop := ∀ P σ H F ρ Q, EnvR K P H F ρ σ → PostO K mg P W σ (fun _ _ a b => a = b) Q F H (se ρ) → te σ H Q
/-- argument lists: no new thing that may be written -/
def AsR (K : PySem.W.Frag) (σ : St) (H : Hp) : List Vl → List V → Prop
  | [], us => us = []
  | .own _ :: _, _ => False
  | v :: l, us => ∃ u r, us = u :: r ∧ VlR K σ H (fun _ => False) v u ∧ AsR K σ H l r
def SdA (K : PySem.W.Frag) (mg : Str → Option Value) (W : WX) (te : TA) (se : SA) : Prop := ∀ P σ H F ρ Q, EnvR K P H F ρ σ → PostO K mg P W σ (fun H _ => AsR K σ H) Q F H (se ρ) → te σ H Q
def SdS (K : PySem.W.Frag) (mg : Str → Option Value) (W : WX) (ts : TS) (ss : SS) : Prop := ∀ P σ H F ρ D, EnvR K P H F ρ σ → PostS K mg P W D F H (ss ρ) → ts D σ H
def PEd (X : Cx) (W : WX) (e : Expr) (se : SE) : Prop := ∃ te, PE X e te ∧ SdE X.K X.mg W te se
def PTd (X : Cx) (W : WX) (e : Expr) (se : ST) : Prop := ∃ te, PT X e te ∧ SdT X.K X.mg W te se
def PAd (X : Cx) (W : WX) (es : List Expr) (se : SA) : Prop := ∃ te, PA X es te ∧ SdA X.K X.mg W te se
def PSd (X : Cx) (W : WX) (st : Stmt) (ss : SS) : Prop := ∃ ts, PS X st ts ∧ SdS X.K X.mg W ts ss
def PBd (X : Cx) (W : WX) (st : List Stmt) (ss : SS) : Prop := ∃ ts, PSs X st ts ∧ SdS X.K X.mg W ts ss
end PF

namespace PF
open PySem L2

structure Ctx (X : Cx) (W : WX) (k : Nat) : Prop where
  tk : L2N.Takes X W
  hp : PassesOwn (model X.prog X.w) X.A X.env X.xe
  calm : X.calm = true
  nd : X.N.Nodup
  room : Room k X.A

/-! ### names, constants -/
def eVar (i : Nat) : SE := fun ρ => match ρ[i]? with
  | some (.imm d) => .ok (.imm d) ρ
  | some (.own _) => .ok (.ref i) ρ
  | some (.par _) => .ok (.ref i) ρ
  | _ => .fail
def eC (d : D) : SE := fun ρ => .ok (.imm d) ρ
section
variable {X : Cx} {W : WX} {K : PySem.W.Frag} {mg : Str → Option Value}
theorem sd_var (i : Nat) : SdE K mg W (tVar i) (eVar i) := by
  intro P σ H F ρ Q E h
  unfold eVar at h
  cases q : ρ[i]? with
  | none => rw [q] at h; exact h.elim
  | some s =>
    rw [q] at h
    have z := E.sl i s q
    cases s with
    | non => exact h.elim
    | xcp _ _ _ => exact h.elim
    | imm d =>
      obtain ⟨v, e, r⟩ := z
      exact ⟨v, join_some e, h v H F (fun _ => False) E r (fun _ _ _ z => z) (Frm.refl _ _ |>.less fun b z => z.elim id False.elim)⟩
    | own d =>
      obtain ⟨v, e, r⟩ := z
      exact ⟨v, join_some e, h v H F (fun _ => False) E (join_some e) (fun _ _ _ z => z) (Frm.refl _ _ |>.less fun b z => z.elim id False.elim)⟩
    | par d =>
      obtain ⟨v, e, _, r⟩ := z
      exact ⟨v, join_some e, h v H F (fun _ => False) E (join_some e) (fun _ _ _ z => z) (Frm.refl _ _ |>.less fun b z => z.elim id False.elim)⟩
theorem sd_c {d : D} {v : V} (r : ∀ H, RI K H d v) : SdE K mg W (tC v) (eC d) := fun P σ H F ρ Q E h =>
  h v H F (fun _ => False) E (r H) (fun _ _ _ z => z) (Frm.refl _ _ |>.less fun b z => z.elim id False.elim)
theorem pd_var (i : Nat) {x : Str} {pos : Pos} (hN : X.N[i]? = some x := by rfl) (hv : Vis X.env.scope x := by first | exact Or.inl rfl | exact Or.inr (Or.inl rfl) | exact Or.inr (Or.inr rfl))
    (hd : (x == ("__debug__" : Str)) = false := by decide) (hcd : (x == ("__classdict__" : Str)) = false := by decide) : PEd X W (.Name x pos) (eVar i) := ⟨_, pe_var hN hv hd hcd, sd_var i⟩
theorem pd_int {i j pos} : PEd X W (.Constant (.int i) j pos) (eC (.int i)) := ⟨_, pe_int, sd_c fun _ => rfl⟩
theorem pd_bl {b j pos} : PEd X W (.Constant (.bool b) j pos) (eC (.bl b)) := ⟨_, pe_bl, sd_c fun _ => rfl⟩
theorem pd_non {j pos} : PEd X W (.Constant .none j pos) (eC .non) := ⟨_, pe_non, sd_c fun _ => rfl⟩
theorem pd_str (l : List Nat) {x : Str} {j pos} (h : x = mkS l := by decide +kernel) : PEd X W (.Constant (.str x) j pos) (eC (.str l)) := ⟨_, pe_str, sd_c fun _ => by rw [h]; rfl⟩
/-! ### two places, one place: what is read -/
def eBin (f : D → D → Option Vl) (a b : SE) : SE := fun ρ => (a ρ).bind fun va ρ1 => (b ρ1).bind fun vb ρ2 => match rd ρ2 va, rd ρ2 vb with
  | some x, some y => match f x y with
    | some v => .ok v ρ2
    | none => .fail
  | _, _ => .fail
def eUn (f : D → Option Vl) (a : SE) : SE := fun ρ => (a ρ).bind fun va ρ1 => match rd ρ1 va with
  | some x => match f x with
    | some v => .ok v ρ1
    | none => .fail
  | _ => .fail
def NewQ (K : PySem.W.Frag) (H : Hp) (v : Vl) (Q : VK) : Prop := ∀ u H' S, VlN K H' S v u → Grow S H H' → Q u H'
def OpD (K : PySem.W.Frag) (r : R2) (f : D → D → Option Vl) : Prop := ∀ H x y u w v Q, RdR K H x u → RdR K H y w → f x y = some v → NewQ K H v Q → r u w H Q
def UnD (K : PySem.W.Frag) (r : V → Hp → VK → Prop) (f : D → Option Vl) : Prop := ∀ H x u v Q, RdR K H x u → f x = some v → NewQ K H v Q → r u H Q
theorem NewQ.imm {H : Hp} {d : D} {Q : VK} {u : V} (h : NewQ K H (.imm d) Q) (r : RI K H d u) : Q u H := h u H (fun _ => False) r (Grow.refl fun _ z => z)
theorem NewQ.tup {H : Hp} {l : List D} {vs : List V} {p : Addr} {Q : VK} (h : NewQ K H (.imm (.tup l)) Q) (r : RIs K H l vs) (hp : H p = none) {o : Obj} (ho : o.dict = none) : Q (.ref p) (upd H p (tupHO (pairy l) o vs)) := by
  have g : Grow (fun _ => False) H (upd H p (tupHO (pairy l) o vs)) := ⟨fun b o e => by rw [upd_ne (ne_of_none e hp)]; exact e, fun _ z => z.elim⟩
  exact h _ _ (fun _ => False) ⟨p, vs, rfl, ⟨o, upd_same, ho⟩, r.mono g.ext⟩ g
theorem NewQ.lst {H : Hp} {l : List D} {vs : List V} {p : Addr} {Q : VK} (h : NewQ K H (.own (.lst l)) Q) (r : RIs K H l vs) (hp : H p = none) : Q (.ref p) (upd H p (.lst vs)) := by
  have g : Grow (fun a => a = p) H (upd H p (.lst vs)) := ⟨fun b o e => by rw [upd_ne (ne_of_none e hp)]; exact e, fun a z => z ▸ hp⟩
  exact h _ _ (fun a => a = p) ⟨⟨p, vs, rfl, rfl, upd_same, r.mono g.ext⟩, fun a z => by rw [z, upd_same]; exact fun z => nomatch z⟩ g
/-- behind an operation: its value comes -/
theorem PostO.new {P : Nat → Option V} {σ : St} {H : Hp} {F : Nat → FS} {ρ : Env} {Q : VK} {v : Vl} (E : EnvR K P H F ρ σ) (h : PostO K mg P W σ (VlR K σ) Q F H (.ok v ρ)) : NewQ K H v Q := fun u H' S r g =>
  h u H' F S (E.grow g) r.vl (fun i a z s => E.dom i a z (g.new a s)) (Frm.of_grow g)
theorem sd_bin {r : R2} {f : D → D → Option Vl} {ta tb : TE} {a b : SE} (ho : OpD K r f) (ha : SdE K mg W ta a) (hb : SdE K mg W tb b) : SdE K mg W (tOp r ta tb) (eBin f a b) := by
  intro P σ H F ρ Q E h
  refine ha P σ H F ρ _ E ?_
  unfold eBin at h
  cases ea : a ρ with
  | fail => rw [ea] at h; exact h
  | exc x ρ1 => rw [ea] at h; exact h
  | ok va ρ1 =>
    rw [ea] at h
    intro u1 H1 F1 S1 E1 R1 dj1 f1
    refine hb P σ H1 F1 ρ1 _ E1 ?_
    rw [Out.bind_ok] at h
    cases eb : b ρ1 with
    | fail => rw [eb] at h; exact h
    | exc x ρ2 => rw [eb] at h; exact h.from f1
    | ok vb ρ2 =>
      rw [eb, Out.bind_ok] at h
      intro u2 H2 F2 S2 E2 R2 dj2 f2
      have R1' := R1.keep dj1 f2
      cases e1 : rd ρ2 va with
      | none => rw [e1] at h; exact h.elim
      | some x =>
        cases e2 : rd ρ2 vb with
        | none => rw [e1, e2] at h; exact h.elim
        | some y =>
          rw [e1, e2] at h
          cases e3 : f x y with
          | none => simp only [e3] at h; exact h.elim
          | some v =>
            simp only [e3] at h
            exact ho H2 x y u1 u2 v _ (rd_ok E2 R1' e1) (rd_ok E2 R2 e2) e3 (PostO.new E2 ((h.from f1).from f2))
theorem sd_un {r : V → Hp → VK → Prop} {f : D → Option Vl} {ta : TE} {a : SE} (ho : UnD K r f) (ha : SdE K mg W ta a) : SdE K mg W (fun σ H Q => ta σ H fun x H1 => r x H1 Q) (eUn f a) := by
  intro P σ H F ρ Q E h
  refine ha P σ H F ρ _ E ?_
  unfold eUn at h
  cases ea : a ρ with
  | fail => rw [ea] at h; exact h
  | exc x ρ1 => rw [ea] at h; exact h
  | ok va ρ1 =>
    rw [ea] at h
    rw [Out.bind_ok] at h
    intro u1 H1 F1 S1 E1 R1 dj1 f1
    cases e1 : rd ρ1 va with
    | none => rw [e1] at h; exact h.elim
    | some x =>
      rw [e1] at h
      cases e3 : f x with
      | none => simp only [e3] at h; exact h.elim
      | some v =>
        simp only [e3] at h
        exact ho H1 x u1 v _ (rd_ok E1 R1 e1) e3 (PostO.new E1 (h.from f1))

/-! ### operators -/
theorem OpR.or {f : Value → Value → Sem Value} {r r' : R2} (h : OpR X f r) (h' : OpR X f r') : OpR X f (fun x y H Q => r x y H Q ∨ r' x y H Q) := by
  intro pins s σ H x y v u Q I rx ry q
  rcases q with q | q
  · exact h pins s σ H x y v u Q I rx ry q
  · exact h' pins s σ H x y v u Q I rx ry q
theorem CallR.or {f : Value} {r r' : List V → Hp → VK → Prop} (h : CallR X f r) (h' : CallR X f r') : CallR X f (fun x H Q => r x H Q ∨ r' x H Q) := by
  intro pins s σ H x u Q I rx q
  rcases q with q | q
  · exact h pins s σ H x u Q I rx q
  · exact h' pins s σ H x u Q I rx q
def big : Nat := 1000000
theorem big_line {n : Nat} (h : n ≤ big) : n ≤ sizeLine := Nat.le_trans h (by rw [sizeLine_eq]; decide)
theorem RIs.length {H : Hp} : ∀ {l : List D} {vs : List V}, RIs K H l vs → vs.length = l.length
  | [], _, h => by cases h; rfl
  | _ :: _, _, ⟨_, _, e, _, h⟩ => by rw [e, List.length_cons, List.length_cons, RIs.length h]
theorem RIs.get {H : Hp} : ∀ {l : List D} {vs : List V} {i : Nat} {d : D}, RIs K H l vs → l[i]? = some d → ∃ v, vs[i]? = some v ∧ RI K H d v
  | [], _, _, _, _, h => by simp at h
  | _ :: _, _, 0, _, ⟨v, _, e, r, _⟩, h => by simp at h; subst h; exact ⟨v, by rw [e]; rfl, r⟩
  | _ :: _, _, i + 1, _, ⟨_, _, e, _, r⟩, h => by
    obtain ⟨v, h1, h2⟩ := RIs.get (i := i) r (by simpa using h)
    exact ⟨v, by rw [e]; simpa using h1, h2⟩
theorem RIs.app {H : Hp} : ∀ {l m : List D} {vs ws : List V}, RIs K H l vs → RIs K H m ws → RIs K H (l ++ m) (vs ++ ws)
  | [], _, _, _, h, k => by cases h; exact k
  | _ :: _, _, _, _, ⟨v, r, e, q, h⟩, k => ⟨v, _, by rw [e]; rfl, q, RIs.app h k⟩
theorem RIs.take {H : Hp} : ∀ {l : List D} {vs : List V} (n : Nat), RIs K H l vs → RIs K H (l.take n) (vs.take n)
  | _, _, 0, _ => by simp [RIs]
  | [], _, _ + 1, h => by cases h; rfl
  | _ :: _, _, n + 1, ⟨v, r, e, q, h⟩ => ⟨v, r.take n, by rw [e]; rfl, q, RIs.take n h⟩
theorem RIs.drop {H : Hp} : ∀ {l : List D} {vs : List V} (n : Nat), RIs K H l vs → RIs K H (l.drop n) (vs.drop n)
  | _, _, 0, h => h
  | [], _, _ + 1, h => by cases h; rfl
  | _ :: _, _, n + 1, ⟨v, r, e, q, h⟩ => by rw [e]; exact RIs.drop n h
theorem mkS_length (l : List Nat) : (mkS l).length = l.length := by simp [mkS, Str.length]
theorem mkS_app (l m : List Nat) : mkS l ++ mkS m = mkS (l ++ m) := by
  show Str.append _ _ = _
  simp [Str.append, mkS]
/-- a + b -/
def addD : D → D → Option Vl
  | .int i, .int j => some (.imm (.int (i + j)))
  | .str s, .str t => if s.length + t.length ≤ big then some (.imm (.str (s ++ t))) else none
  | _, _ => none
def subD : D → D → Option Vl
  | .int i, .int j => some (.imm (.int (i - j)))
  | _, _ => none
theorem op_addD : ∃ r, OpR X (binaryOp .Add) r ∧ OpD X.K r addD := by
  refine ⟨_, OpR.or op_add op_add_str, fun H x y u w v Q rx ry e q => ?_⟩
  unfold addD at e
  split at e
  · cases e; cases rx; cases ry
    exact .inl ⟨_, _, rfl, rfl, q.imm rfl⟩
  · split at e
    · rename_i hl
      cases e; cases rx; cases ry
      refine .inr ⟨_, _, rfl, rfl, ?_, ?_⟩
      · rw [mkS_length, mkS_length]; exact big_line hl
      · rw [mkS_app]; exact q.imm rfl
    · cases e
  · cases e
theorem op_subD : ∃ r, OpR X (binaryOp .Sub) r ∧ OpD X.K r subD := by
  refine ⟨_, op_sub, fun H x y u w v Q rx ry e q => ?_⟩
  unfold subD at e
  split at e
  · cases e; cases rx; cases ry
    exact ⟨_, _, rfl, rfl, q.imm rfl⟩
  · cases e
theorem pd_op {op : Operator} {f : D → D → Option Vl} {a b : Expr} {sa sb : SE} {pos : Pos} (h : ∃ r, OpR X (binaryOp op) r ∧ OpD X.K r f) (ha : PEd X W a sa) (hb : PEd X W b sb) : PEd X W (.BinOp a op b pos) (eBin f sa sb) := by
  obtain ⟨r, h1, h2⟩ := h
  obtain ⟨ta, a1, a2⟩ := ha
  obtain ⟨tb, b1, b2⟩ := hb
  exact ⟨_, pe_op h1 a1 b1, sd_bin h2 a2 b2⟩
theorem pd_cmp {op : CmpOp} {f : D → D → Option Vl} {a b : Expr} {sa sb : SE} {pos : Pos} (h : ∃ r, OpR X (compareOp op) r ∧ OpD X.K r f) (ha : PEd X W a sa) (hb : PEd X W b sb) (hm : behindInMarks op b = false := by first | rfl | exact nomark _) :
    PEd X W (.Compare a [op] [b] pos) (eBin f sa sb) := by
  obtain ⟨r, h1, h2⟩ := h
  obtain ⟨ta, a1, a2⟩ := ha
  obtain ⟨tb, b1, b2⟩ := hb
  exact ⟨_, pe_cmpR h1 a1 b1 hm, sd_bin h2 a2 b2⟩
end
end PF

namespace PF
open PySem L2
section
variable {X : Cx} {W : WX} {K : PySem.W.Frag} {mg : Str → Option Value}

/-! ### what is handed on for good is not written any more -/
def tFrz (te : TE) : TE := fun σ H Q => te σ H fun u H1 => Q u H1 ∨ ∃ a o, u = .ref a ∧ H1 a = some o ∧ Mut (some o) ∧ ∀ od, Q u (upd H1 a (.frz od o))
theorem pe_frz {e : Expr} {t : TE} (h : PE X e t) : PE X e (tFrz t) := by
  refine ⟨fun pins s σ H Q I hw => thn (h.run pins s σ H _ I hw) fun v s1 hh => ?_⟩
  obtain ⟨x, H1, I1, r, q⟩ := hh
  rcases q with q | ⟨a, o, e, ha, mu, q⟩
  · exact ⟨x, H1, I1, r, q⟩
  · obtain ⟨od, I2⟩ := I1.lock ha mu
    exact ⟨x, _, I2, r, q od⟩
def fzb : D → Bool
  | .lst _ => true | .dct _ => true | .dcT _ => true | _ => false
def frzV : Vl → Env → Out Vl
  | .imm d, ρ => .ok (.imm d) ρ
  | .own d, ρ => if fzb d then .ok (.imm d) ρ else .fail
  | .ref i, ρ => match ρ[i]? with
    | some (.imm d) => .ok (.imm d) ρ
    | some (.own d) => if fzb d then .ok (.imm d) (ρ.set i (.imm d)) else .fail
    | _ => .fail
def eFrz (a : SE) : SE := fun ρ => (a ρ).bind frzV
def NT (H : Hp) (a : Addr) : Prop := (∀ b xs, H b = some (.tup xs) → b ≠ a) ∧ ∀ b fs, H b = some (.xd fs) → b ≠ a
theorem frz_own {H : Hp} {S : FS} {d : D} {u : V} (h : OwnR K H S d u) (hf : fzb d = true) : ∃ a o, u = .ref a ∧ S a ∧ H a = some o ∧ Mut (some o) ∧ NT H a ∧ (∀ b o u, H b = some (.frz o u) → b ≠ a) ∧
    ∀ od, RI K (upd H a (.frz od o)) d u := by
  have e : ∀ {a o od}, H a = some o → Mut (some o) → NT H a ∧ (∀ b o u, H b = some (.frz o u) → b ≠ a) ∧ Ext H (upd H a (.frz od o)) := fun {a o od} ha mu => by
    have n1 : NT H a := ⟨fun b xs q z => by rw [z, ha] at q; cases q; exact mu, fun b fs q z => by rw [z, ha] at q; cases q; exact mu⟩
    have n2 : ∀ b o u, H b = some (.frz o u) → b ≠ a := fun b o u q z => by rw [z, ha] at q; cases q; exact mu
    exact ⟨n1, n2, fun b xs q => by rw [upd_ne (n1.1 b xs q)]; exact q, fun b o u q => by rw [upd_ne (n2 b o u q)]; exact q, fun b fs q => by rw [upd_ne (n1.2 b fs q)]; exact q⟩
  cases d with
  | lst l =>
    obtain ⟨a, vs, h1, s, h2, h3⟩ := h
    have z := e (od := default) h2 trivial
    exact ⟨a, _, h1, s, h2, trivial, z.1, z.2.1, fun od => ⟨a, vs, h1, .inl ⟨od, upd_same⟩, h3.mono (e h2 trivial).2.2⟩⟩
  | dct l =>
    obtain ⟨a, vs, h1, s, h2, h3⟩ := h
    have z := e (od := default) h2 trivial
    exact ⟨a, _, h1, s, h2, trivial, z.1, z.2.1, fun od => ⟨a, od, vs, h1, upd_same, h3.mono (e h2 trivial).2.2⟩⟩
  | dcT l =>
    obtain ⟨a, vs, h1, s, h2, h3⟩ := h
    have z := e (od := default) h2 trivial
    exact ⟨a, _, h1, s, h2, trivial, z.1, z.2.1, fun od => ⟨a, od, vs, h1, upd_same, h3.mono (e h2 trivial).2.2⟩⟩
  | _ => cases hf
theorem Frm.upd1 {U : FS} {H : Hp} {a : Addr} {o : HO} (hU : U a) (h : H a ≠ none) (n1 : NT H a) (n2 : ∀ b o u, H b = some (.frz o u) → b ≠ a) : Frm U U H (upd H a o) where
  keep := fun b o' n e => by
    have hne : b ≠ a := fun z => n (by rw [z]; exact hU)
    rw [upd_ne hne]; exact e
  ext := ⟨fun b xs q => by rw [upd_ne (n1.1 b xs q)]; exact q, fun b o u q => by rw [upd_ne (n2 b o u q)]; exact q, fun b fs q => by rw [upd_ne (n1.2 b fs q)]; exact q⟩
  dom := fun b q => by
    by_cases z : b = a
    · rw [z, upd_same]; exact fun z => nomatch z
    · rw [upd_ne z]; exact q
  sub := fun b q => .inl q
theorem List.set_get_ne {α : Type} {l : List α} {i j : Nat} {x : α} (h : j ≠ i) : (l.set i x)[j]? = l[j]? := List.getElem?_set_ne (Ne.symm h)
/-- slot i gets another content; what stood in it is let go -/
theorem EnvR.put {P : Nat → Option V} {H : Hp} {F : Nat → FS} {ρ : Env} {σ : St} (E : EnvR K P H F ρ σ) {i : Nat} {s : Sl} {o : Option V} {S : FS} (hi : i < ρ.length) (hs : SlR K H S (P i) s o) (dj : ∀ j a, F j a → ¬ S a) (dm : ∀ a, S a → H a ≠ none) :
    EnvR K P H (fun j a => (j = i ∧ S a) ∨ (j ≠ i ∧ F j a)) (ρ.set i s) (σ.set i o) where
  len := by rw [List.length_set, List.length_set]; exact E.len
  sl := fun j t h => by
    by_cases e : j = i
    · subst e
      rw [List.getElem?_set_self hi] at h
      cases h
      rw [List.getElem?_set_self (by rw [E.len]; exact hi)]
      cases s with
      | non => trivial
      | imm d => exact hs
      | own d => obtain ⟨v, h1, h2⟩ := hs; exact ⟨v, h1, h2.more fun b z => .inl ⟨rfl, z⟩⟩
      | par d => obtain ⟨v, h1, h0, h2⟩ := hs; exact ⟨v, h1, h0, h2.more fun b z => .inl ⟨rfl, z⟩⟩
      | xcp _ _ _ => exact hs
    · rw [List.set_get_ne e] at h
      rw [List.set_get_ne e]
      have z := E.sl j t h
      cases t with
      | non => trivial
      | imm d => exact z
      | own d => obtain ⟨v, h1, h2⟩ := z; exact ⟨v, h1, h2.more fun b z => .inr ⟨e, z⟩⟩
      | par d => obtain ⟨v, h1, h0, h2⟩ := z; exact ⟨v, h1, h0, h2.more fun b z => .inr ⟨e, z⟩⟩
      | xcp _ _ _ => exact z
  dj := fun j k a h1 h2 => by
    rcases h1 with ⟨e1, s1⟩ | ⟨e1, s1⟩ <;> rcases h2 with ⟨e2, s2⟩ | ⟨e2, s2⟩
    · rw [e1, e2]
    · exact absurd s1 (dj k a s2)
    · exact absurd s2 (dj j a s1)
    · exact E.dj j k a s1 s2
  dom := fun j a h => by
    rcases h with ⟨_, s⟩ | ⟨_, s⟩
    · exact dm a s
    · exact E.dom j a s
theorem Un.put {F : Nat → FS} {i : Nat} {S : FS} {a : Addr} (h : Un (fun j a => (j = i ∧ S a) ∨ (j ≠ i ∧ F j a)) a) : Un F a ∨ S a := by
  obtain ⟨j, ⟨_, z⟩ | ⟨_, z⟩⟩ := h
  · exact .inr z
  · exact .inl ⟨j, z⟩
theorem lt_of_get {α : Type} {l : List α} {i : Nat} {x : α} (h : l[i]? = some x) : i < l.length := (List.getElem?_eq_some_iff.mp h).1
/-- an object of slot i is written -/
theorem EnvR.wr {P : Nat → Option V} {H : Hp} {F : Nat → FS} {ρ : Env} {σ : St} (E : EnvR K P H F ρ σ) {i : Nat} {a : Addr} {o : HO} {s : Sl} (hi : i < ρ.length) (hF : F i a) (n1 : NT H a) (n2 : ∀ b o u, H b = some (.frz o u) → b ≠ a)
    (hs : SlR K (upd H a o) (F i) (P i) s σ[i]?.join) : EnvR K P (upd H a o) F (ρ.set i s) σ where
  len := by rw [List.length_set]; exact E.len
  sl := fun j t h => by
    by_cases e : j = i
    · subst e
      rw [List.getElem?_set_self hi] at h
      cases h
      exact hs
    · rw [List.set_get_ne e] at h
      refine (E.sl j t h).keep (fun b o' q r => ?_) (Frm.upd1 (U := fun _ => True) trivial (E.dom i a hF) n1 n2).ext
      have hne : b ≠ a := fun z => e (E.dj j i a (by rw [← z]; exact q) hF)
      rw [upd_ne hne]
      exact r
  dj := E.dj
  dom := fun j b h => by
    by_cases z : b = a
    · rw [z, upd_same]; exact fun z => nomatch z
    · rw [upd_ne z]; exact E.dom j b h
theorem sd_frz {te : TE} {a : SE} (ha : SdE K mg W te a) : SdE K mg W (tFrz te) (eFrz a) := by
  intro P σ H F ρ Q E h
  refine ha P σ H F ρ _ E ?_
  unfold eFrz at h
  cases ea : a ρ with
  | fail => rw [ea] at h; exact h
  | exc x ρ1 => rw [ea] at h; exact h
  | ok v ρ1 =>
    rw [ea, Out.bind_ok] at h
    intro u H1 F1 S1 E1 R1 dj1 f1
    cases v with
    | imm d => exact .inl (h u H1 F1 (fun _ => False) E1 R1 (fun _ _ _ z => z) (f1.less fun b z => z.elim .inl False.elim))
    | own d =>
      unfold frzV at h
      dsimp only at h
      split at h
      · rename_i hf
        obtain ⟨r, dm⟩ := R1
        obtain ⟨a', o, e, sa, ha', mu, n1, n2, q⟩ := frz_own r hf
        refine .inr ⟨a', o, e, ha', mu, fun od => ?_⟩
        have fr : Frm (fun a => Un F1 a ∨ S1 a) (fun a => Un F1 a ∨ S1 a) H1 (upd H1 a' (.frz od o)) := Frm.upd1 (.inr sa) (dm a' sa) n1 n2
        refine h u _ F1 (fun _ => False) (E1.keep (fun b o' hb r => ?_) fr.ext fr.dom) (q od) (fun _ _ _ z => z) ((f1.trans fr).less fun b z => z.elim .inl False.elim)
        have hne : b ≠ a' := fun z => by
          obtain ⟨i, hb⟩ := hb
          exact dj1 i a' (by rw [← z]; exact hb) sa
        rw [upd_ne hne]
        exact r
      · exact h.elim
    | ref i =>
      have R1' : σ[i]? = some (some u) := R1
      unfold frzV at h
      dsimp only at h
      split at h
      · rename_i d q
        have z := E1.sl i _ q
        rw [R1'] at z
        obtain ⟨v, e, r⟩ := z
        cases e
        exact .inl (h u H1 F1 (fun _ => False) E1 r (fun _ _ _ z => z) (f1.less fun b z => z.elim .inl False.elim))
      · rename_i d q
        split at h
        · rename_i hf
          have z := E1.sl i _ q
          rw [R1'] at z
          obtain ⟨v, e, r⟩ := z
          cases e
          obtain ⟨a', o, e, sa, ha', mu, n1, n2, q'⟩ := frz_own r hf
          refine .inr ⟨a', o, e, ha', mu, fun od => ?_⟩
          have fr : Frm (Un F1) (Un F1) H1 (upd H1 a' (.frz od o)) := Frm.upd1 ⟨i, sa⟩ (E1.dom i a' sa) n1 n2
          have E2 := E1.wr (i := i) (a := a') (o := .frz od o) (s := .imm d) (lt_of_get q) sa n1 n2 (by rw [R1']; exact ⟨_, rfl, q' od⟩)
          exact h u _ F1 (fun _ => False) E2 (q' od) (fun _ _ _ z => z) (((f1.less fun b z => .inl z).trans fr).less fun b z => z.elim id False.elim)
        · exact h.elim
      · exact h.elim
theorem pd_frz {e : Expr} {a : SE} (h : PEd X W e a) : PEd X W e (eFrz a) := by
  obtain ⟨te, h1, h2⟩ := h
  exact ⟨_, pe_frz h1, sd_frz h2⟩

/-! ### argument lists, displays -/
def aNil : SA := fun ρ => .ok [] ρ
def aCons (a : SE) (b : SA) : SA := fun ρ => (a ρ).bind fun v ρ1 => match v with
  | .own _ => .fail
  | v => (b ρ1).bind fun vs ρ2 => .ok (v :: vs) ρ2
theorem AsR.keep {σ : St} {H H' : Hp} (e : Ext H H') : ∀ {vs : List Vl} {us : List V}, AsR K σ H vs us → AsR K σ H' vs us
  | [], _, h => h
  | .own _ :: _, _, h => h.elim
  | .imm d :: l, _, ⟨u, r, h1, h2, h3⟩ => ⟨u, r, h1, RI.mono e h2, AsR.keep e h3⟩
  | .ref i :: l, _, ⟨u, r, h1, h2, h3⟩ => ⟨u, r, h1, h2, AsR.keep e h3⟩
theorem sa_nil : SdA K mg W tNil aNil := fun P σ H F ρ Q E h => h [] H F (fun _ => False) E rfl (fun _ _ _ z => z) (Frm.refl _ _ |>.less fun b z => z.elim id False.elim)
theorem sa_cons {ta : TE} {tb : TA} {a : SE} {b : SA} (ha : SdE K mg W ta a) (hb : SdA K mg W tb b) : SdA K mg W (tCons ta tb) (aCons a b) := by
  intro P σ H F ρ Q E h
  refine ha P σ H F ρ _ E ?_
  unfold aCons at h
  cases ea : a ρ with
  | fail => rw [ea] at h; exact h
  | exc x ρ1 => rw [ea] at h; exact h
  | ok v ρ1 =>
    rw [ea, Out.bind_ok] at h
    intro u1 H1 F1 S1 E1 R1 dj1 f1
    have main : ∀ (R : ∀ H', Ext H1 H' → VlR K σ H' (fun _ => False) v u1), (∀ d, v ≠ .own d) → PostO K mg P W σ (fun H _ => AsR K σ H) Q F H ((b ρ1).bind fun vs ρ2 => .ok (v :: vs) ρ2) → tb σ H1 fun xs H2 => Q (u1 :: xs) H2 := fun R hn h => by
      refine hb P σ H1 F1 ρ1 _ E1 ?_
      cases eb : b ρ1 with
      | fail => rw [eb] at h; exact h
      | exc x ρ2 => rw [eb] at h; exact h.from f1
      | ok vs ρ2 =>
        rw [eb, Out.bind_ok] at h
        intro us H2 F2 S2 E2 R2 dj2 f2
        refine h (u1 :: us) H2 F2 (fun _ => False) E2 ?_ (fun _ _ _ z => z) ((f1.step f2).less fun b z => z.elim .inl False.elim)
        cases v with
        | own d => exact absurd rfl (hn d)
        | imm d => exact ⟨u1, us, rfl, R H2 f2.ext, R2⟩
        | ref i => exact ⟨u1, us, rfl, R H2 f2.ext, R2⟩
    cases v with
    | own d => exact h.elim
    | imm d => exact main (fun H' e => RI.mono e R1) (fun _ z => nomatch z) h
    | ref i => exact main (fun H' e => R1) (fun _ z => nomatch z) h
theorem pad_nil : PAd X W [] aNil := ⟨_, pa_nil, sa_nil⟩
theorem pad_cons {e : Expr} {es : List Expr} {a : SE} {b : SA} (h1 : PEd X W e a) (h2 : PAd X W es b) (hs : starEach (e :: es) X.env = (false, eval e X.env) :: starEach es X.env := by rfl) : PAd X W (e :: es) (aCons a b) := by
  obtain ⟨ta, a1, a2⟩ := h1
  obtain ⟨tb, b1, b2⟩ := h2
  exact ⟨_, pa_cons a1 b1 hs, sa_cons a2 b2⟩
def imms : List Vl → Option (List D)
  | [] => some []
  | .imm d :: l => (imms l).map (d :: ·)
  | _ :: _ => none
theorem imms_ok {σ : St} {H : Hp} : ∀ {vs : List Vl} {us : List V} {l : List D}, imms vs = some l → AsR K σ H vs us → RIs K H l us
  | [], _, _, e, h => by cases e; exact h
  | .own _ :: _, _, _, e, h => h.elim
  | .ref _ :: _, _, _, e, h => nomatch e
  | .imm d :: r, _, l, e, ⟨u, us, h1, h2, h3⟩ => by
    unfold imms at e
    cases q : imms r with
    | none => rw [q] at e; cases e
    | some m => rw [q] at e; cases e; exact ⟨u, us, h1, h2, imms_ok q h3⟩
def eArgs (f : List D → Option Vl) (a : SA) : SE := fun ρ => (a ρ).bind fun vs ρ1 => match imms vs with
  | some l => match f l with
    | some v => .ok v ρ1
    | none => .fail
  | none => .fail
/-- a call of what is known, by what is written -/
def ArD (K : PySem.W.Frag) (r : List V → Hp → VK → Prop) (f : List D → Option Vl) : Prop := ∀ H l us v Q, RIs K H l us → f l = some v → NewQ K H v Q → r us H Q
theorem sd_args {r : List V → Hp → VK → Prop} {f : List D → Option Vl} {ta : TA} {a : SA} (ho : ArD K r f) (ha : SdA K mg W ta a) : SdE K mg W (fun σ H Q => ta σ H fun vs H1 => r vs H1 Q) (eArgs f a) := by
  intro P σ H F ρ Q E h
  refine ha P σ H F ρ _ E ?_
  unfold eArgs at h
  cases ea : a ρ with
  | fail => rw [ea] at h; exact h
  | exc x ρ1 => rw [ea] at h; exact h
  | ok vs ρ1 =>
    rw [ea, Out.bind_ok] at h
    intro us H1 F1 S1 E1 R1 dj1 f1
    cases e1 : imms vs with
    | none => rw [e1] at h; exact h.elim
    | some l =>
      rw [e1] at h
      cases e3 : f l with
      | none => simp only [e3] at h; exact h.elim
      | some v =>
        simp only [e3] at h
        exact ho H1 l us v _ (imms_ok e1 R1) e3 (PostO.new E1 (h.from f1))
def tupD : List D → Option Vl := fun l => if l.length ≤ big then some (.imm (.tup l)) else none
def lstD : List D → Option Vl := fun l => if l.length ≤ big then some (.own (.lst l)) else none
/-- a new tuple, told as the prover likes -/
def NewT (Q : VK) (H : Hp) (xs : List V) : Prop := ∃ b : Bool, ∀ (p : Addr) (o : Obj), H p = none → o.dict = none → Q (.ref p) (upd H p (tupHO b o xs))
theorem NewT.of {H : Hp} {l : List D} {xs : List V} {Q : VK} (q : NewQ K H (.imm (.tup l)) Q) (r : RIs K H l xs) : NewT Q H xs := ⟨pairy l, fun p o hp ho => q.tup r hp ho⟩
theorem pd_lst {es : List Expr} {a : SA} {pos} (h : PAd X W es a) : PEd X W (.List es pos) (eArgs lstD a) := by
  obtain ⟨ta, a1, a2⟩ := h
  refine ⟨_, pe_lst a1, sd_args (r := fun xs H1 Q => xs.length ≤ sizeLine ∧ ∀ p, H1 p = none → Q (.ref p) (upd H1 p (.lst xs))) (fun H l us v Q r e q => ?_) a2⟩
  unfold lstD at e
  split at e
  · rename_i hl
    cases e
    exact ⟨big_line (by rw [r.length]; exact hl), fun p hp => q.lst r hp⟩
  · cases e
end

/-! ### defs -/
inductive Ar where
  | imm (d : D) | mt (d : D)
inductive FOut where
  | ret (r : Vl) (as : List Ar) | exc (x : Xc) (as : List Ar) | fail
def ArV (K : PySem.W.Frag) (H : Hp) (S : FS) : Ar → V → Prop
  | .imm d, v => RI K H d v
  | .mt d, v => OwnR K H S d v
structure ArR (K : PySem.W.Frag) (H : Hp) (F : Nat → FS) (as : List Ar) (vs : List V) : Prop where
  len : vs.length = as.length
  sl : ∀ i a, as[i]? = some a → ∃ v, vs[i]? = some v ∧ ArV K H (F i) a v
  dj : ∀ i j a, F i a → F j a → i = j
  dom : ∀ i a, F i a → H a ≠ none
def PostF (K : PySem.W.Frag) (mg : Str → Option Value) (vs : List V) (Q : VK) (E : XK) (F : Nat → FS) (H : Hp) : FOut → Prop
  | .ret r as' => ∀ u H' F' S, ArR K H' F' as' vs → VlN K H' S r u → (∀ i a, F' i a → ¬ S a) → Frm (Un F) (fun a => Un F' a ∨ S a) H H' → Q u H'
  | .exc x as' => ∀ cls d H' F', ArR K H' F' as' vs → XcR K mg H' x cls d → Frm (Un F) (Un F') H H' → E cls d H'
  | .fail => False
/-- a def's promise by its function -/
def fsp (K : PySem.W.Frag) (mg : Str → Option Value) (n : Nat) (g : List Ar → FOut) : Sp := fun vs H Q E => ∃ as F, as.length = n ∧ ArR K H F as vs ∧ PostF K mg vs Q E F H (g as)
theorem fsp_len {K : PySem.W.Frag} {mg : Str → Option Value} {n : Nat} {g : List Ar → FOut} {vs : List V} {H : Hp} {Q : VK} {E : XK} (h : fsp K mg n g vs H Q E) : vs.length = n := by
  obtain ⟨as, F, h1, h2, _⟩ := h
  rw [h2.len, h1]
def slOf : Ar → Sl
  | .imm d => .imm d
  | .mt d => .par d
def startE (n : Nat) (as : List Ar) : Env := as.map slOf ++ List.replicate (n - as.length) .non
def backs : List Ar → Env → Option (List Ar)
  | [], _ => some []
  | .imm d :: as, ρ => (backs as ρ.tail).map (.imm d :: ·)
  | .mt _ :: as, ρ => match ρ with
    | .par d :: ρ' => (backs as ρ').map (.mt d :: ·)
    | _ => none
def retV (ρ : Env) : Vl → Option Vl
  | .imm d => some (.imm d)
  | .own d => some (.own d)
  | .ref i => match ρ[i]? with
    | some (.own d) => some (.own d)
    | some (.imm d) => some (.imm d)
    | _ => none
/-- what a body comes to, from arguments -/
def runF (n : Nat) (body : SS) : List Ar → FOut := fun as => match body (startE n as) with
  | .nx ρ => match backs as ρ with
    | some bs => .ret (.imm .non) bs
    | none => .fail
  | .rt v ρ => match retV ρ v, backs as ρ with
    | some r, some bs => .ret r bs
    | _, _ => .fail
  | .exc x ρ => match backs as ρ with
    | some bs => .exc x bs
    | none => .fail
  | _ => .fail
section
variable {K : PySem.W.Frag} {mg : Str → Option Value}
theorem start_get {as : List Ar} {n i : Nat} {s : Sl} (h : (startE n as)[i]? = some s) : (∃ a, as[i]? = some a ∧ s = slOf a) ∨ (as.length ≤ i ∧ s = .non) := by
  unfold startE at h
  by_cases hi : i < as.length
  · rw [List.getElem?_append_left (by simpa using hi), List.getElem?_map] at h
    cases e : as[i]? with
    | none => rw [e] at h; cases h
    | some a => rw [e] at h; cases h; exact .inl ⟨a, rfl, rfl⟩
  · rw [List.getElem?_append_right (by simpa using hi), List.getElem?_replicate] at h
    split at h
    · cases h; exact .inr ⟨by omega, rfl⟩
    · cases h
theorem start_val {N : List Str} {vs : List V} {i : Nat} {v : V} (h : vs[i]? = some v) : (L2.start N vs)[i]? = some (some v) := by
  unfold L2.start
  rw [List.getElem?_append_left (by have := lt_of_get h; simpa using this), List.getElem?_map, h]
  rfl
theorem start_env {H : Hp} {F : Nat → FS} {as : List Ar} {vs : List V} {N : List Str} (A : ArR K H F as vs) (hl : as.length ≤ N.length) : EnvR K (fun i => vs[i]?) H F (startE N.length as) (L2.start N vs) where
  len := by
    unfold L2.start startE
    rw [List.length_append, List.length_append, List.length_map, List.length_map, List.length_replicate, List.length_replicate, A.len]
  sl := fun i s h => by
    rcases start_get h with ⟨a, ha, e⟩ | ⟨_, e⟩
    · obtain ⟨v, hv, r⟩ := A.sl i a ha
      rw [start_val hv]
      subst e
      cases a with
      | imm d => exact ⟨v, rfl, r⟩
      | mt d => exact ⟨v, rfl, hv, r⟩
    · subst e; trivial
  dj := A.dj
  dom := A.dom
theorem backs_len : ∀ {as : List Ar} {ρ : Env} {bs : List Ar}, backs as ρ = some bs → bs.length = as.length
  | [], _, _, h => by cases h; rfl
  | .imm d :: as, ρ, bs, h => by
    unfold backs at h
    cases q : backs as ρ.tail with
    | none => rw [q] at h; cases h
    | some r => rw [q] at h; cases h; simp [backs_len q]
  | .mt d :: as, ρ, bs, h => by
    unfold backs at h
    split at h
    · rename_i d' ρ'
      cases q : backs as ρ' with
      | none => rw [q] at h; cases h
      | some r => rw [q] at h; cases h; simp [backs_len q]
    · cases h
theorem backs_get : ∀ {as : List Ar} {ρ : Env} {bs : List Ar} {i : Nat} {b : Ar}, backs as ρ = some bs → bs[i]? = some b → (∃ d, as[i]? = some (.imm d) ∧ b = .imm d) ∨ ∃ d d', as[i]? = some (.mt d) ∧ ρ[i]? = some (.par d') ∧ b = .mt d'
  | [], _, _, _, _, h, e => by cases h; simp at e
  | .imm d :: as, ρ, bs, i, b, h, e => by
    unfold backs at h
    cases q : backs as ρ.tail with
    | none => rw [q] at h; cases h
    | some r =>
      rw [q] at h; cases h
      cases i with
      | zero => simp at e; exact .inl ⟨d, rfl, e.symm⟩
      | succ i =>
        rcases backs_get q (i := i) (b := b) (by simpa using e) with ⟨x, h1, h2⟩ | ⟨x, y, h1, h2, h3⟩
        · exact .inl ⟨x, by simpa using h1, h2⟩
        · refine .inr ⟨x, y, by simpa using h1, ?_, h3⟩
          cases ρ with
          | nil => simp at h2
          | cons s ρ => simpa using h2
  | .mt d :: as, ρ, bs, i, b, h, e => by
    unfold backs at h
    split at h
    · rename_i d' ρ'
      cases q : backs as ρ' with
      | none => rw [q] at h; cases h
      | some r =>
        rw [q] at h; cases h
        cases i with
        | zero => simp at e; exact .inr ⟨d, d', rfl, rfl, e.symm⟩
        | succ i =>
          rcases backs_get q (i := i) (b := b) (by simpa using e) with ⟨x, h1, h2⟩ | ⟨x, y, h1, h2, h3⟩
          · exact .inl ⟨x, by simpa using h1, h2⟩
          · exact .inr ⟨x, y, by simpa using h1, by simpa using h2, h3⟩
    · cases h
/-- what the arguments are behind a body -/
theorem backs_ok {H H' : Hp} {F F' : Nat → FS} {as bs : List Ar} {vs : List V} {ρ : Env} {σ : St} (A : ArR K H F as vs) (e : Ext H H') (E : EnvR K (fun i => vs[i]?) H' F' ρ σ) (h : backs as ρ = some bs) : ArR K H' F' bs vs where
  len := by rw [backs_len h]; exact A.len
  sl := fun i b q => by
    rcases backs_get h q with ⟨d, h1, h2⟩ | ⟨d, d', h1, h2, h3⟩
    · obtain ⟨v, hv, r⟩ := A.sl i _ h1
      subst h2
      exact ⟨v, hv, RI.mono e r⟩
    · obtain ⟨v, hv, hp, r⟩ := E.sl i _ h2
      subst h3
      exact ⟨v, hp, r⟩
  dj := E.dj
  dom := E.dom
open PySem.Spec PyProof.Rows in
/-- as the kit's rule for defs that may raise, exceptions without a context -/
theorem fun_okXN {P : Program} {w : World} {K : PySem.W.Frag} {mg : Str → Option Value} {base : Heap} {x qual : Str} {st : Stmt} {f : Addr} {fd : FuncData} {N ps : List Str} {k : Nat} {sp : Sp} (F : Fun K x qual st f fd) (S : FnScope N ps (defScope st)) (len : ∀ vs H Q E, sp vs H Q E → vs.length = ps.length)
    (hbody : ∀ (cdv : Value) (A : Around) (outer : List PySem.Env) (s : Shared) (H : Hp) (vs : List V) (Q : VK) (E : XK), Room k (A.deeper (envOfC qual (defScope st) s.heap.objs.size f cdv)) → sp vs H Q E →
      ∃ t, PSs (cxOf (L2N.CX P w) P w K mg base N qual (defScope st) f cdv A outer s H E) (defBody st) t ∧ t { nx := fun _ H' => Q .non H', rt := Q } (L2.start N vs) H) : FnOk P w K mg base (L2N.CX P w) (k + 1) f fd ps sp := by
  obtain ⟨oc, od, kV, doc, pm, an, cdv, ct, osl, rfl, lk, hcd⟩ := F.ex
  exact fn_of lk hcd S len fun A outer s H vs Q E hr hsp => hbody cdv A outer s H vs Q E hr hsp
/-- THE RULE of a def: its body by rules -/
theorem fn_okD {P : Program} {w : World} {base : Heap} {x qual : Str} {st : Stmt} {f : Addr} {fd : FuncData} {N ps : List Str} {k : Nat} {body : SS} (Fu : Fun K x qual st f fd) (S : FnScope N ps (defScope st))
    (hb : ∀ (X : Cx) (E : XK) (cdv : Value) (A : Around) (outer : List PySem.Env) (s : Shared) (H : Hp), X = cxOf (L2N.CX P w) P w K mg base N qual (defScope st) f cdv A outer s H E → Ctx X (fun cls d _ H => E cls d H) k → PBd X (fun cls d _ H => E cls d H) (defBody st) body) :
    FnOk P w K mg base (L2N.CX P w) (k + 1) f fd ps (fsp K mg ps.length (runF N.length body)) := by
  have hpl : ps.length ≤ N.length := by have := congrArg List.length S.pre; rw [List.length_take] at this; omega
  refine fun_okXN Fu S (fun vs H Q E h => fsp_len h) fun cdv A outer s H vs Q E hr h => ?_
  obtain ⟨as, F, h1, h2, h3⟩ := h
  obtain ⟨t, t1, t2⟩ := hb _ E cdv A outer s H rfl ⟨L2N.takes_of rfl rfl rfl rfl, passes_of rfl, rfl, S.nd, hr⟩
  refine ⟨t, t1, ?_⟩
  refine t2 (fun i => vs[i]?) (L2.start N vs) H F (startE N.length as) _ (start_env h2 (by omega)) ?_
  unfold runF at h3
  cases eb : body (startE N.length as) with
  | nx ρ =>
    rw [eb] at h3
    dsimp only at h3
    cases q : backs as ρ with
    | none => rw [q] at h3; exact h3.elim
    | some bs =>
      rw [q] at h3
      exact fun σ' H' F' E' f' => h3 .non H' F' (fun _ => False) (backs_ok h2 f'.ext E' q) rfl (fun _ _ _ z => z) (f'.less fun b z => z.elim id False.elim)
  | rt v ρ =>
    rw [eb] at h3
    dsimp only at h3
    cases q : backs as ρ with
    | none =>
      rw [q] at h3
      cases q2 : retV ρ v with
      | none => rw [q2] at h3; exact h3.elim
      | some r => rw [q2] at h3; exact h3.elim
    | some bs =>
      rw [q] at h3
      intro u σ' H' F' S' E' R' dj' f'
      have main : ∀ r, retV ρ v = some r → ∃ F2 S2, ArR K H' F2 bs vs ∧ VlN K H' S2 r u ∧ (∀ i a, F2 i a → ¬ S2 a) ∧ ∀ a, (Un F2 a ∨ S2 a) → Un F' a ∨ S' a := fun r er => by
        have B := backs_ok h2 f'.ext E' q
        cases v with
        | imm d => cases er; exact ⟨F', S', B, R', dj', fun a z => z⟩
        | own d => cases er; exact ⟨F', S', B, R', dj', fun a z => z⟩
        | ref i =>
          have R2 : σ'[i]? = some (some u) := R'
          unfold retV at er
          dsimp only at er
          split at er
          · rename_i d qi
            cases er
            obtain ⟨v', e', r'⟩ := E'.sl i _ qi
            rw [R2] at e'
            cases e'
            refine ⟨fun j a => j ≠ i ∧ F' j a, F' i, ⟨B.len, fun j b hb => ?_, fun j k a z1 z2 => B.dj j k a z1.2 z2.2, fun j a z => B.dom j a z.2⟩, ⟨r', fun a z => E'.dom i a z⟩, fun j a z1 z2 => z1.1 (E'.dj j i a z1.2 z2), fun a z => ?_⟩
            · obtain ⟨v, hv, r⟩ := B.sl j b hb
              refine ⟨v, hv, ?_⟩
              cases b with
              | imm d => exact r
              | mt d' =>
                refine OwnR.more r fun a z => ⟨fun hj => ?_, z⟩
                subst hj
                rcases backs_get q hb with ⟨_, _, z⟩ | ⟨_, _, _, z, _⟩
                · cases z
                · rw [qi] at z; cases z
            · rcases z with ⟨j, z⟩ | z
              · exact .inl ⟨j, z.2⟩
              · exact .inl ⟨i, z⟩
          · rename_i d qi
            cases er
            obtain ⟨v', e', r'⟩ := E'.sl i _ qi
            rw [R2] at e'
            cases e'
            exact ⟨F', fun _ => False, B, r', fun _ _ _ z => z, fun a z => z.elim .inl False.elim⟩
          · cases er
      cases q2 : retV ρ v with
      | none => rw [q2] at h3; exact h3.elim
      | some r =>
        rw [q2] at h3
        obtain ⟨F2, S2, B, V2, dj2, sub⟩ := main r q2
        exact h3 u H' F2 S2 B V2 dj2 (f'.less sub)
  | exc x ρ =>
    rw [eb] at h3
    dsimp only at h3
    cases q : backs as ρ with
    | none => rw [q] at h3; exact h3.elim
    | some bs =>
      rw [q] at h3
      exact fun cls d σ' H' F' E' r f' => h3 cls d H' F' (backs_ok h2 f'.ext E' q) r f'
  | bk ρ => rw [eb] at h3; exact h3.elim
  | ct ρ => rw [eb] at h3; exact h3.elim
  | fail => rw [eb] at h3; exact h3.elim
end
end PF

namespace PF
open PySem L2

/-! ### a def called -/
def toAr (ρ : Env) : List Vl → Option (List Ar)
  | [] => some []
  | .imm d :: l => (toAr ρ l).map (Ar.imm d :: ·)
  | .own _ :: _ => none
  | .ref i :: l => match ρ[i]? with
    | some (.imm d) => (toAr ρ l).map (Ar.imm d :: ·)
    | some (.own d) => (toAr ρ l).map (Ar.mt d :: ·)
    | some (.par d) => (toAr ρ l).map (Ar.mt d :: ·)
    | _ => none
def posOf (i : Nat) : List Vl → Nat → Option Nat
  | [], _ => none
  | .ref k :: l, j => if k = i then some j else posOf i l (j + 1)
  | .imm _ :: l, j => posOf i l (j + 1)
  | .own _ :: l, j => posOf i l (j + 1)
def wb1 (as : List Ar) : Sl → Option Nat → Sl
  | s, none => s
  | .own _, some j => match as[j]? with
    | some (.mt d) => .own d
    | _ => .non
  | .par _, some j => match as[j]? with
    | some (.mt d) => .par d
    | _ => .non
  | s, some _ => s
def wbs (vs : List Vl) (as : List Ar) : Nat → Env → Env
  | _, [] => []
  | i, s :: ρ => wb1 as s (posOf i vs 0) :: wbs vs as (i + 1) ρ
def refsL : List Vl → List Nat
  | [] => []
  | .ref i :: l => i :: refsL l
  | .imm _ :: l => refsL l
  | .own _ :: l => refsL l
def ndB : List Nat → Bool
  | [] => true
  | a :: l => (l.all fun b => b != a) && ndB l
def eCall (g : List Ar → FOut) (a : SA) : SE := fun ρ => (a ρ).bind fun vs ρ1 => match toAr ρ1 vs with
  | none => .fail
  | some as => if ndB (refsL vs) then match g as with
      | .ret r bs => .ok r (wbs vs bs 0 ρ1)
      | .exc x bs => .exc x (wbs vs bs 0 ρ1)
      | .fail => .fail
    else .fail
theorem posOf_get {i : Nat} : ∀ {vs : List Vl} {k j : Nat}, posOf i vs k = some j → k ≤ j ∧ vs[j - k]? = some (.ref i)
  | [], _, _, h => nomatch h
  | .ref m :: l, k, j, h => by
    unfold posOf at h
    split at h
    · rename_i e; cases h; subst e; simp
    · obtain ⟨h1, h2⟩ := posOf_get (vs := l) h
      have e : j - k = (j - (k + 1)) + 1 := by omega
      exact ⟨by omega, by rw [e]; simpa using h2⟩
  | .imm m :: l, k, j, h => by
    unfold posOf at h
    obtain ⟨h1, h2⟩ := posOf_get (vs := l) h
    have e : j - k = (j - (k + 1)) + 1 := by omega
    exact ⟨by omega, by rw [e]; simpa using h2⟩
  | .own m :: l, k, j, h => by
    unfold posOf at h
    obtain ⟨h1, h2⟩ := posOf_get (vs := l) h
    have e : j - k = (j - (k + 1)) + 1 := by omega
    exact ⟨by omega, by rw [e]; simpa using h2⟩
theorem refsL_mem {i : Nat} : ∀ {vs : List Vl} {j : Nat}, vs[j]? = some (.ref i) → i ∈ refsL vs
  | [], _, h => by simp at h
  | .ref m :: l, 0, h => by simp at h; subst h; exact List.mem_cons_self
  | .imm m :: l, 0, h => by simp at h
  | .own m :: l, 0, h => by simp at h
  | .ref m :: l, j + 1, h => List.mem_cons_of_mem _ (refsL_mem (j := j) (by simpa using h))
  | .imm m :: l, j + 1, h => refsL_mem (vs := l) (j := j) (by simpa using h)
  | .own m :: l, j + 1, h => refsL_mem (vs := l) (j := j) (by simpa using h)
theorem nd_one {i : Nat} : ∀ {vs : List Vl} {j k : Nat}, ndB (refsL vs) = true → vs[j]? = some (.ref i) → vs[k]? = some (.ref i) → j = k
  | [], _, _, _, h, _ => by simp at h
  | v :: l, j, k, nd, h1, h2 => by
    have tl : ndB (refsL l) = true ∧ (∀ m, v = .ref m → m ∉ refsL l) := by
      cases v with
      | imm d => exact ⟨nd, fun m z => nomatch z⟩
      | own d => exact ⟨nd, fun m z => nomatch z⟩
      | ref m =>
        have nd' : ((refsL l).all (fun b => b != m) && ndB (refsL l)) = true := nd
        rw [Bool.and_eq_true] at nd'
        refine ⟨nd'.2, fun m' z hm => ?_⟩
        cases z
        have := List.all_eq_true.mp nd'.1 m hm
        simp at this
    cases j with
    | zero =>
      cases k with
      | zero => rfl
      | succ k =>
        have e : v = .ref i := by simpa using h1
        exact absurd (refsL_mem (vs := l) (j := k) (by simpa using h2)) (tl.2 i e)
    | succ j =>
      cases k with
      | zero =>
        have e : v = .ref i := by simpa using h2
        exact absurd (refsL_mem (vs := l) (j := j) (by simpa using h1)) (tl.2 i e)
      | succ k => rw [nd_one (vs := l) (j := j) (k := k) tl.1 (by simpa using h1) (by simpa using h2)]
theorem posOf_some {i : Nat} : ∀ {vs : List Vl} {j : Nat} (k : Nat), vs[j]? = some (.ref i) → ∃ m, posOf i vs k = some m
  | [], _, _, h => by simp at h
  | .ref m :: l, 0, k, h => by simp at h; subst h; exact ⟨k, by unfold posOf; rw [if_pos rfl]⟩
  | .imm m :: l, 0, k, h => by simp at h
  | .own m :: l, 0, k, h => by simp at h
  | .ref m :: l, j + 1, k, h => by
    unfold posOf
    split
    · exact ⟨k, rfl⟩
    · exact posOf_some (vs := l) (j := j) (k + 1) (by simpa using h)
  | .imm m :: l, j + 1, k, h => posOf_some (vs := l) (j := j) (k + 1) (by simpa using h)
  | .own m :: l, j + 1, k, h => posOf_some (vs := l) (j := j) (k + 1) (by simpa using h)
theorem wbs_get {vs : List Vl} {as : List Ar} : ∀ {ρ : Env} {k i : Nat}, (wbs vs as k ρ)[i]? = ρ[i]?.map fun s => wb1 as s (posOf (k + i) vs 0)
  | [], _, _ => by simp [wbs]
  | s :: ρ, k, 0 => by simp [wbs]
  | s :: ρ, k, i + 1 => by
    have e : k + (i + 1) = (k + 1) + i := by omega
    simp only [wbs, List.getElem?_cons_succ]
    rw [wbs_get (ρ := ρ), e]
theorem wbs_len {vs : List Vl} {as : List Ar} : ∀ {ρ : Env} {k : Nat}, (wbs vs as k ρ).length = ρ.length
  | [], _ => rfl
  | s :: ρ, k => by simp [wbs, wbs_len (ρ := ρ)]
theorem toAr_len {ρ : Env} : ∀ {vs : List Vl} {as : List Ar}, toAr ρ vs = some as → as.length = vs.length
  | [], _, h => by cases h; rfl
  | .imm d :: l, as, h => by
    unfold toAr at h
    cases q : toAr ρ l with
    | none => rw [q] at h; cases h
    | some r => rw [q] at h; cases h; simp [toAr_len q]
  | .own d :: l, as, h => nomatch h
  | .ref i :: l, as, h => by
    unfold toAr at h
    split at h <;> try (cases h; done)
    all_goals
      cases q : toAr ρ l with
      | none => rw [q] at h; cases h
      | some r => rw [q] at h; cases h; simp [toAr_len q]
theorem toAr_get {ρ : Env} : ∀ {vs : List Vl} {as : List Ar} {j : Nat} {a : Ar}, toAr ρ vs = some as → as[j]? = some a →
    (∃ d, vs[j]? = some (.imm d) ∧ a = .imm d) ∨ (∃ i d, vs[j]? = some (.ref i) ∧ ρ[i]? = some (.imm d) ∧ a = .imm d) ∨ ∃ i d, vs[j]? = some (.ref i) ∧ (ρ[i]? = some (.own d) ∨ ρ[i]? = some (.par d)) ∧ a = .mt d
  | [], _, _, _, h, e => by cases h; simp at e
  | .imm d :: l, as, j, a, h, e => by
    unfold toAr at h
    cases q : toAr ρ l with
    | none => rw [q] at h; cases h
    | some r =>
      rw [q] at h; cases h
      cases j with
      | zero => simp at e; exact .inl ⟨d, rfl, e.symm⟩
      | succ j => simpa using toAr_get q (j := j) (a := a) (by simpa using e)
  | .own d :: l, as, j, a, h, e => nomatch h
  | .ref i :: l, as, j, a, h, e => by
    unfold toAr at h
    split at h <;> try (cases h; done)
    all_goals
      rename_i d qi
      cases q : toAr ρ l with
      | none => rw [q] at h; cases h
      | some r =>
        rw [q] at h; cases h
        cases j with
        | zero =>
          simp at e
          first
            | exact .inr (.inl ⟨i, d, rfl, qi, e.symm⟩)
            | exact .inr (.inr ⟨i, d, rfl, .inl qi, e.symm⟩)
            | exact .inr (.inr ⟨i, d, rfl, .inr qi, e.symm⟩)
        | succ j => simpa using toAr_get q (j := j) (a := a) (by simpa using e)
section
variable {K : PySem.W.Frag} {mg : Str → Option Value} {P : Nat → Option V} {σ : St}
theorem AsR.len {H : Hp} : ∀ {vs : List Vl} {us : List V}, AsR K σ H vs us → us.length = vs.length
  | [], _, h => by cases h; rfl
  | .own _ :: _, _, h => h.elim
  | .imm d :: l, _, ⟨u, r, h1, h2, h3⟩ => by rw [h1]; simp [AsR.len h3]
  | .ref i :: l, _, ⟨u, r, h1, h2, h3⟩ => by rw [h1]; simp [AsR.len h3]
theorem AsR.get {H : Hp} : ∀ {vs : List Vl} {us : List V} {j : Nat} {v : Vl}, AsR K σ H vs us → vs[j]? = some v → ∃ u, us[j]? = some u ∧ VlR K σ H (fun _ => False) v u
  | [], _, _, _, _, e => by simp at e
  | .own _ :: _, _, _, _, h, _ => h.elim
  | .imm d :: l, _, 0, v, ⟨u, r, h1, h2, h3⟩, e => by simp at e; subst e; exact ⟨u, by rw [h1]; rfl, h2⟩
  | .ref i :: l, _, 0, v, ⟨u, r, h1, h2, h3⟩, e => by simp at e; subst e; exact ⟨u, by rw [h1]; rfl, h2⟩
  | .imm d :: l, _, j + 1, v, ⟨u, r, h1, h2, h3⟩, e => by
    obtain ⟨w, a, b⟩ := AsR.get h3 (j := j) (v := v) (by simpa using e)
    exact ⟨w, by rw [h1]; simpa using a, b⟩
  | .ref i :: l, _, j + 1, v, ⟨u, r, h1, h2, h3⟩, e => by
    obtain ⟨w, a, b⟩ := AsR.get h3 (j := j) (v := v) (by simpa using e)
    exact ⟨w, by rw [h1]; simpa using a, b⟩
def mutB (ρ : Env) (i : Nat) : Bool := match ρ[i]? with
  | some (.own _) => true
  | some (.par _) => true
  | _ => false
def pm (ρ : Env) (vs : List Vl) (i : Nat) : Option Nat := if mutB ρ i then posOf i vs 0 else none
theorem pm_get {ρ : Env} {vs : List Vl} {i j : Nat} (h : pm ρ vs i = some j) : vs[j]? = some (.ref i) ∧ mutB ρ i = true := by
  unfold pm at h
  split at h
  · rename_i hm
    exact ⟨by simpa using (posOf_get h).2, hm⟩
  · cases h
/-- what the callee may write -/
def Fc (ρ : Env) (vs : List Vl) (F : Nat → FS) : Nat → FS := fun j a => ∃ i, pm ρ vs i = some j ∧ F i a
def F2 (ρ : Env) (vs : List Vl) (F F' : Nat → FS) : Nat → FS := fun i a => match pm ρ vs i with
  | some j => F' j a
  | none => F i a
theorem call_args {H : Hp} {F : Nat → FS} {ρ : Env} {vs : List Vl} {us : List V} {as : List Ar} (E : EnvR K P H F ρ σ) (A : AsR K σ H vs us) (h : toAr ρ vs = some as) (nd : ndB (refsL vs) = true) : ArR K H (Fc ρ vs F) as us where
  len := by rw [toAr_len h]; exact A.len
  sl := fun j a e => by
    rcases toAr_get h e with ⟨d, h1, h2⟩ | ⟨i, d, h1, h0, h2⟩ | ⟨i, d, h1, h0, h2⟩
    · obtain ⟨u, h3, h4⟩ := A.get h1
      subst h2
      exact ⟨u, h3, h4⟩
    · obtain ⟨u, h3, h4⟩ := A.get h1
      subst h2
      have h4' : σ[i]? = some (some u) := h4
      have z := E.sl i _ h0
      rw [h4'] at z
      obtain ⟨v, e1, r⟩ := z
      cases e1
      exact ⟨u, h3, r⟩
    · obtain ⟨u, h3, h4⟩ := A.get h1
      subst h2
      have h4' : σ[i]? = some (some u) := h4
      have hp : pm ρ vs i = some j := by
        obtain ⟨m, hm⟩ := posOf_some 0 h1
        have := (posOf_get hm).2
        rw [Nat.sub_zero] at this
        have hj : m = j := nd_one nd this h1
        have hb : mutB ρ i = true := by rcases h0 with z | z <;> (unfold mutB; rw [z])
        unfold pm
        rw [if_pos hb, hm, hj]
      refine ⟨u, h3, ?_⟩
      rcases h0 with h0 | h0
      · have z := E.sl i _ h0
        rw [h4'] at z
        obtain ⟨v, e1, r⟩ := z
        cases e1
        exact OwnR.more r fun b z => ⟨i, hp, z⟩
      · have z := E.sl i _ h0
        rw [h4'] at z
        obtain ⟨v, e1, _, r⟩ := z
        cases e1
        exact OwnR.more r fun b z => ⟨i, hp, z⟩
  dj := fun j k a ⟨i, h1, f1⟩ ⟨i', h2, f2⟩ => by
    have e := E.dj i i' a f1 f2
    subst e
    rw [h1] at h2
    exact Option.some.inj h2
  dom := fun j a ⟨i, _, f⟩ => E.dom i a f
theorem fc_un {F : Nat → FS} {ρ : Env} {vs : List Vl} {a : Addr} (h : Un (Fc ρ vs F) a) : Un F a := let ⟨_, i, _, f⟩ := h; ⟨i, f⟩
theorem call_env {H H' : Hp} {F F' : Nat → FS} {ρ : Env} {vs : List Vl} {us : List V} {bs : List Ar} {S : FS} (E : EnvR K P H F ρ σ) (A : AsR K σ H vs us) (B : ArR K H' F' bs us) (f : Frm (Un (Fc ρ vs F)) (fun a => Un F' a ∨ S a) H H') :
    EnvR K P H' (F2 ρ vs F F') (wbs vs bs 0 ρ) σ := by
  have out : ∀ {i b}, pm ρ vs i = none → F i b → ¬ Un (Fc ρ vs F) b := fun {i b} hp hb ⟨j, i', h1, h2⟩ => by
    have e := E.dj i i' b hb h2
    subst e
    rw [hp] at h1; cases h1
  have keepF : ∀ {i b o}, pm ρ vs i = none → F i b → H b = some o → H' b = some o := fun {i b o} hp hb q => f.keep b o (out hp hb) q
  refine ⟨by rw [wbs_len]; exact E.len, fun i s h => ?_, fun i k a h1 h2 => ?_, fun i a h => ?_⟩
  · rw [wbs_get] at h
    cases q : ρ[i]? with
    | none => rw [q] at h; cases h
    | some s0 =>
      rw [q] at h
      simp only [Option.map_some, Option.some.injEq, Nat.zero_add] at h
      have z := E.sl i s0 q
      cases s0 with
      | non => cases hp : posOf i vs 0 <;> (rw [hp] at h; subst h; trivial)
      | imm d =>
        have e : s = .imm d := by cases hp : posOf i vs 0 <;> (rw [hp] at h; exact h.symm)
        subst e
        obtain ⟨v, h1, r⟩ := z
        exact ⟨v, h1, r.mono f.ext⟩
      | xcp xa xd xf =>
        have e : s = .xcp xa xd xf := by cases hp : posOf i vs 0 <;> (rw [hp] at h; exact h.symm)
        subst e
        exact ⟨z.1, z.2.mono f.ext⟩
      | own d =>
        have hb : mutB ρ i = true := by unfold mutB; rw [q]
        have ep : pm ρ vs i = posOf i vs 0 := by unfold pm; rw [if_pos hb]
        obtain ⟨v, h1, r⟩ := z
        cases hp : posOf i vs 0 with
        | none =>
          rw [hp] at h ep
          subst h
          exact ⟨v, h1, (r.keep (fun b o s q => keepF ep s q) f.ext).more fun b z => by unfold F2; rw [ep]; exact z⟩
        | some j =>
          rw [hp] at h ep
          have hj := (pm_get ep).1
          obtain ⟨u, hu, hv⟩ := A.get hj
          have hv' : σ[i]? = some (some u) := hv
          unfold wb1 at h
          dsimp only at h
          split at h
          · rename_i d' hd
            subst h
            obtain ⟨v2, e2, r2⟩ := B.sl j _ hd
            rw [hu] at e2; cases e2
            exact ⟨u, by rw [hv']; rfl, OwnR.more r2 fun b z => by unfold F2; rw [ep]; exact z⟩
          · subst h; trivial
      | par d =>
        have hb : mutB ρ i = true := by unfold mutB; rw [q]
        have ep : pm ρ vs i = posOf i vs 0 := by unfold pm; rw [if_pos hb]
        obtain ⟨v, h1, h0, r⟩ := z
        cases hp : posOf i vs 0 with
        | none =>
          rw [hp] at h ep
          subst h
          exact ⟨v, h1, h0, (r.keep (fun b o s q => keepF ep s q) f.ext).more fun b z => by unfold F2; rw [ep]; exact z⟩
        | some j =>
          rw [hp] at h ep
          have hj := (pm_get ep).1
          obtain ⟨u, hu, hv⟩ := A.get hj
          have hv' : σ[i]? = some (some u) := hv
          unfold wb1 at h
          dsimp only at h
          split at h
          · rename_i d' hd
            subst h
            obtain ⟨v2, e2, r2⟩ := B.sl j _ hd
            rw [hu] at e2; cases e2
            rw [hv'] at h1
            have h1' : u = v := Option.some.inj h1
            rw [← h1'] at h0
            exact ⟨u, by rw [hv']; rfl, h0, OwnR.more r2 fun b z => by unfold F2; rw [ep]; exact z⟩
          · subst h; trivial
  · unfold F2 at h1 h2
    cases p1 : pm ρ vs i with
    | none =>
      rw [p1] at h1
      cases p2 : pm ρ vs k with
      | none => rw [p2] at h2; exact E.dj i k a h1 h2
      | some j2 =>
        rw [p2] at h2
        exact ((f.sub a (.inl ⟨j2, h2⟩)).elim (out p1 h1) (E.dom i a h1)).elim
    | some j1 =>
      rw [p1] at h1
      cases p2 : pm ρ vs k with
      | none =>
        rw [p2] at h2
        exact ((f.sub a (.inl ⟨j1, h1⟩)).elim (out p2 h2) (E.dom k a h2)).elim
      | some j2 =>
        rw [p2] at h2
        have e := B.dj j1 j2 a h1 h2
        subst e
        have a1 := (pm_get p1).1
        rw [(pm_get p2).1] at a1
        cases a1; rfl
  · unfold F2 at h
    cases p1 : pm ρ vs i with
    | none => rw [p1] at h; exact f.dom a (E.dom i a h)
    | some j1 => rw [p1] at h; exact B.dom j1 a h
theorem call_frm {H H' : Hp} {F F' : Nat → FS} {ρ : Env} {vs : List Vl} {S : FS} (E : EnvR K P H F ρ σ) (f : Frm (Un (Fc ρ vs F)) (fun a => Un F' a ∨ S a) H H') : Frm (Un F) (fun a => Un (F2 ρ vs F F') a ∨ S a) H H' where
  keep := fun b o n q => f.keep b o (fun z => n (fc_un z)) q
  ext := f.ext
  dom := f.dom
  sub := fun b h => by
    have fin : (Un F' b ∨ S b) → Un F b ∨ H b = none := fun z => (f.sub b z).imp fc_un id
    rcases h with ⟨i, h⟩ | h
    · unfold F2 at h
      cases p1 : pm ρ vs i with
      | none => rw [p1] at h; exact .inl ⟨i, h⟩
      | some j1 => rw [p1] at h; exact fin (.inl ⟨j1, h⟩)
    · exact fin (.inr h)
theorem call_dj {H H' : Hp} {F F' : Nat → FS} {ρ : Env} {vs : List Vl} {S : FS} (E : EnvR K P H F ρ σ) (dj : ∀ i a, F' i a → ¬ S a) (f : Frm (Un (Fc ρ vs F)) (fun a => Un F' a ∨ S a) H H') : ∀ i a, F2 ρ vs F F' i a → ¬ S a := fun i a h s => by
  unfold F2 at h
  cases p1 : pm ρ vs i with
  | none =>
    rw [p1] at h
    rcases f.sub a (.inr s) with ⟨j, i', h1, h2⟩ | z
    · have e := E.dj i i' a h h2
      subst e
      rw [p1] at h1; cases h1
    · exact E.dom i a h z
  | some j1 => rw [p1] at h; exact dj j1 a h s
theorem sd_call {W : WX} {g : List Ar → FOut} {n : Nat} {ta : TA} {a : SA} (hn : ∀ as, g as ≠ .fail → as.length = n) (ha : SdA K mg W ta a) : SdE K mg W (tCallS (fsp K mg n g) (WE W) ta) (eCall g a) := by
  intro P σ H F ρ Q E h
  refine ha P σ H F ρ _ E ?_
  unfold eCall at h
  cases ea : a ρ with
  | fail => rw [ea] at h; exact h
  | exc x ρ1 => rw [ea] at h; exact h
  | ok vs ρ1 =>
    rw [ea, Out.bind_ok] at h
    intro us H1 F1 S1 E1 R1 dj1 f1
    have f1' : Frm (Un F) (Un F1) H H1 := f1.less fun b z => .inl z
    cases e1 : toAr ρ1 vs with
    | none => rw [e1] at h; exact h.elim
    | some as =>
      rw [e1] at h
      dsimp only at h
      split at h
      · rename_i nd
        have B0 := call_args E1 R1 e1 nd
        have hg : g as ≠ .fail := fun z => by rw [z] at h; exact h
        refine ⟨as, _, hn as hg, B0, ?_⟩
        cases eg : g as with
        | fail => exact hg eg
        | ret r bs =>
          rw [eg] at h
          intro u H' F' S B V dj f
          exact h u H' _ S (call_env E1 R1 B f) V.vl (call_dj E1 dj f) (f1'.trans (call_frm E1 f))
        | exc x bs =>
          rw [eg] at h
          intro cls d H' F' B V f
          have f0 : Frm (Un (Fc ρ1 vs F1)) (fun a => Un F' a ∨ False) H1 H' := f.less fun b z => z.elim id False.elim
          exact h cls d H' _ (call_env (S := fun _ => False) E1 R1 B f0) V (f1'.trans ((call_frm (S := fun _ => False) E1 f0).less fun b z => .inl z))
      · exact h.elim
end
/-- f(..) -/
theorem pd_call {X : Cx} {W : WX} {k k' : Nat} {g : List Ar → FOut} {x : Str} {f : Addr} {fd : FuncData} {ps : List Str} {p pos : Pos} {e : Expr} {es : List Expr} {a : SA} (C : Ctx X W k') (G : FnOk X.prog X.w X.K X.mg X.base (L2N.CX X.prog X.w) k f fd ps (fsp X.K X.mg ps.length g))
    (hm : X.mg x = some (.ref f)) (hkp : PySem.W.keepIn X.K (.ref f) = true) (hb : Binds X.K fd ps []) (hn : ∀ as, g as ≠ .fail → as.length = ps.length) (ha : PAd X W (e :: es) a) (hk : k ≤ k' := by decide) (hg : Gl X x := by rfl)
    (hdb : (x == ("__debug__" : Str)) = false := by decide) (he : starEach (e :: es) X.env = (false, eval e X.env) :: starEach es X.env := by rfl) (hpl : (backTo pos (starEach es X.env)).any (·.1) = false := by rfl) :
    PEd X W (.Call (.Name x p) (e :: es) [] pos) (eCall g a) := by
  obtain ⟨ta, a1, a2⟩ := ha
  exact ⟨_, pe_callS G (C.room.mono hk) hg hm hkp hb (fun σ => L2N.passAt C.tk σ) a1 hdb he hpl, sd_call hn a2⟩
end PF

namespace PF
open PySem PySem.Spec PyProof.Rows
open L2

/-! ### tests -/
def tV (a : SE) : ST := fun ρ => (a ρ).bind fun v ρ1 => match v with
  | .imm (.bl b) => .ok b ρ1
  | _ => .fail
def stNot (a : ST) : ST := fun ρ => (a ρ).bind fun b ρ1 => .ok (!b) ρ1
def stAnd (a b : ST) : ST := fun ρ => (a ρ).bind fun c ρ1 => if c then b ρ1 else .ok false ρ1
def stOr (a b : ST) : ST := fun ρ => (a ρ).bind fun c ρ1 => if c then .ok true ρ1 else b ρ1
/-- truth of other values -/
def truD : D → Option Bool
  | .bl b => some b
  | .non => some false
  | .int i => some (i != 0)
  | .str s => if s.length ≤ big then some (!s.isEmpty) else none
  | .tup l => some (!l.isEmpty)
  | .lst l => some (!l.isEmpty)
  | _ => none
def tTr (a : SE) : ST := fun ρ => (a ρ).bind fun v ρ1 => match rd ρ1 v with
  | some d => match truD d with
    | some b => .ok b ρ1
    | none => .fail
  | none => .fail
section
variable {X : Cx} {W : WX} {K : PySem.W.Frag} {mg : Str → Option Value}
theorem PostO.doneB {P : Nat → Option V} {σ : L2.St} {Q : Bool → Hp → Prop} {F : Nat → FS} {H : Hp} {ρ : Env} {b : Bool} (E : EnvR K P H F ρ σ) (h : PostO K mg P W σ (fun _ _ a b => a = b) Q F H (.ok b ρ)) : Q b H :=
  h b H F (fun _ => False) E rfl (fun _ _ _ z => z) (Frm.refl _ _ |>.less fun b z => z.elim id False.elim)
theorem PostO.doneV {P : Nat → Option V} {σ : L2.St} {Q : VK} {F : Nat → FS} {H : Hp} {ρ : Env} {d : D} {u : V} (E : EnvR K P H F ρ σ) (h : PostO K mg P W σ (VlR K σ) Q F H (.ok (.imm d) ρ)) (r : RI K H d u) : Q u H :=
  h u H F (fun _ => False) E r (fun _ _ _ z => z) (Frm.refl _ _ |>.less fun b z => z.elim id False.elim)
theorem sd_tV {te : TE} {a : SE} (ha : SdE K mg W te a) : SdT K mg W (fun σ H Q => te σ H fun x H1 => ∃ c, x = .bl c ∧ Q c H1) (tV a) := by
  intro P σ H F ρ Q E h
  refine ha P σ H F ρ _ E ?_
  unfold tV at h
  cases ea : a ρ with
  | fail => rw [ea] at h; exact h
  | exc x ρ1 => rw [ea] at h; exact h
  | ok v ρ1 =>
    rw [ea, Out.bind_ok] at h
    intro u H1 F1 S1 E1 R1 dj1 f1
    split at h
    · rename_i b
      cases R1
      exact ⟨b, rfl, PostO.doneB E1 (h.from f1)⟩
    · exact h.elim
theorem sd_tTr {te : TE} {a : SE} (ha : SdE K mg W te a) : SdT K mg W (fun σ H Q => te σ H fun x H1 => ∃ k, TruV K x H1 k ∧ Q k H1) (tTr a) := by
  intro P σ H F ρ Q E h
  refine ha P σ H F ρ _ E ?_
  unfold tTr at h
  cases ea : a ρ with
  | fail => rw [ea] at h; exact h
  | exc x ρ1 => rw [ea] at h; exact h
  | ok v ρ1 =>
    rw [ea, Out.bind_ok] at h
    intro u H1 F1 S1 E1 R1 dj1 f1
    cases e1 : rd ρ1 v with
    | none => rw [e1] at h; exact h.elim
    | some d =>
      rw [e1] at h
      cases e2 : truD d with
      | none => simp only [e2] at h; exact h.elim
      | some b =>
        simp only [e2] at h
        have r := rd_ok E1 R1 e1
        refine ⟨b, ?_, PostO.doneB E1 (h.from f1)⟩
        cases d with
        | non => cases r; cases e2; rfl
        | bl c => cases r; cases e2; rfl
        | int i => cases r; cases e2; rfl
        | str s =>
          cases r
          unfold truD at e2
          dsimp only at e2
          split at e2
          · rename_i hl
            cases e2
            refine ⟨by rw [mkS_length]; exact big_line hl, ?_⟩
            rw [mkS_length]
            cases s with
            | nil => rfl
            | cons c s =>
              have h0 : (((c :: s).length : Nat) : Int) ≠ 0 := by rw [List.length_cons]; omega
              exact (bne_iff_ne.mpr h0).symm
          · cases e2
        | tup l =>
          obtain ⟨p, vs, e, q, rs⟩ := r
          subst e; cases e2
          refine .inr (.inl ⟨vs, SqT.of q, ?_⟩)
          have := rs.length
          cases vs <;> cases l <;> simp_all
        | lst l =>
          obtain ⟨p, vs, e, q, rs⟩ := r
          subst e; cases e2
          refine .inl ⟨vs, q, ?_⟩
          have := rs.length
          cases vs <;> cases l <;> simp_all
        | dct l => cases e2
        | dcT l => cases e2
        | deal _ _ _ => cases e2
        | obj _ _ => cases e2
theorem sd_not {te : TT} {a : ST} (ha : SdT K mg W te a) : SdT K mg W (tNot te) (stNot a) := by
  intro P σ H F ρ Q E h
  refine ha P σ H F ρ _ E ?_
  unfold stNot at h
  cases ea : a ρ with
  | fail => rw [ea] at h; exact h
  | exc x ρ1 => rw [ea] at h; exact h
  | ok v ρ1 =>
    rw [ea, Out.bind_ok] at h
    intro u H1 F1 S1 E1 R1 dj1 f1
    cases R1
    exact h _ H1 F1 S1 E1 rfl dj1 f1
theorem sd_and {ta tb : TT} {a b : ST} (ha : SdT K mg W ta a) (hb : SdT K mg W tb b) : SdT K mg W (tAnd ta tb) (stAnd a b) := by
  intro P σ H F ρ Q E h
  refine ha P σ H F ρ _ E ?_
  unfold stAnd at h
  cases ea : a ρ with
  | fail => rw [ea] at h; exact h
  | exc x ρ1 => rw [ea] at h; exact h
  | ok v ρ1 =>
    rw [ea, Out.bind_ok] at h
    intro u H1 F1 S1 E1 R1 dj1 f1
    cases R1
    cases v with
    | true => exact iteT (hb P σ H1 F1 ρ1 _ E1 (h.from f1))
    | false => exact iteF (h _ H1 F1 S1 E1 rfl dj1 f1)
theorem ptd_tru {e : Expr} {a : SE} (h : PEd X W e a) (he : ∀ whole, isTrue e X.env whole = (do let v ← whole; standAt e.pos; holding [v] (truthy v)) := by intro _; rfl) : PTd X W e (tTr a) := by
  obtain ⟨te, h1, h2⟩ := h
  exact ⟨_, pt_truth h1 he, sd_tTr h2⟩
theorem ptd_cmp {op : CmpOp} {f : D → D → Option Vl} {a b : Expr} {sa sb : SE} {pos : Pos} (h : ∃ r, OpR X (compareOp op) r ∧ OpD X.K r f) (ha : PEd X W a sa) (hb : PEd X W b sb) (hm : behindInMarks op b = false := by first | rfl | exact nomark _) :
    PTd X W (.Compare a [op] [b] pos) (tV (eBin f sa sb)) := by
  obtain ⟨r, h1, h2⟩ := h
  obtain ⟨ta, a1, a2⟩ := ha
  obtain ⟨tb, b1, b2⟩ := hb
  exact ⟨_, pt_cmpR h1 a1 b1 hm, sd_tV (sd_bin h2 a2 b2)⟩
theorem ptd_not {e : Expr} {a : ST} {pos : Pos} (h : PTd X W e a) : PTd X W (.UnaryOp .Not e pos) (stNot a) := by
  obtain ⟨te, h1, h2⟩ := h
  exact ⟨_, pt_not h1, sd_not h2⟩
/-- chains of and, or -/
def PWd (X : Cx) (W : WX) (e : Expr) (se : ST) : Prop := ∃ te, PW X e te ∧ SdT X.K X.mg W te se
theorem pwd_and1 {a : Expr} {s : ST} {pos : Pos} (h : PTd X W a s) : PWd X W (.BoolOp .And [a] pos) s := by
  obtain ⟨te, h1, h2⟩ := h
  exact ⟨_, pw_and1 h1, h2⟩
theorem pwd_and {a b : Expr} {rest : List Expr} {s t : ST} {pos : Pos} (h : PTd X W a s) (k : PWd X W (.BoolOp .And (b :: rest) pos) t) : PWd X W (.BoolOp .And (a :: b :: rest) pos) (stAnd s t) := by
  obtain ⟨te, h1, h2⟩ := h
  obtain ⟨tf, k1, k2⟩ := k
  exact ⟨_, pw_and h1 k1, sd_and h2 k2⟩
theorem PWd.pt {e : Expr} {s : ST} (h : PWd X W e s) : PTd X W e s := by
  obtain ⟨te, h1, h2⟩ := h
  exact ⟨_, h1.pt, h2⟩
/-- a and b, a or b, not a, as values -/
def eB (a : ST) : SE := fun ρ => (a ρ).bind fun b ρ1 => .ok (.imm (.bl b)) ρ1
def eAndV (a b : SE) : SE := fun ρ => (a ρ).bind fun v ρ1 => match v with
  | .imm (.bl c) => if c then b ρ1 else .ok (.imm (.bl false)) ρ1
  | _ => .fail
def eOrV (a b : SE) : SE := fun ρ => (a ρ).bind fun v ρ1 => match v with
  | .imm (.bl c) => if c then .ok (.imm (.bl true)) ρ1 else b ρ1
  | _ => .fail
def eNotV (a : SE) : SE := fun ρ => (a ρ).bind fun v ρ1 => match v with
  | .imm (.bl c) => .ok (.imm (.bl (!c))) ρ1
  | _ => .fail
/-- a if c else b -/
def eIf (c : ST) (a b : SE) : SE := fun ρ => (c ρ).bind fun k ρ1 => if k then a ρ1 else b ρ1
/-! ### targets -/
inductive Tg where
  | nm (i : Nat) | tup (l : List Tg)
mutual
def setT : Tg → D → Env → Option Env
  | .nm i, d, ρ => match ρ[i]? with
    | some (.par _) => none
    | none => none
    | _ => some (ρ.set i (.imm d))
  | .tup ts, d, ρ => match d with
    | .tup l => setTs ts l ρ
    | _ => none
def setTs : List Tg → List D → Env → Option Env
  | [], [], ρ => some ρ
  | t :: ts, d :: l, ρ => match setT t d ρ with
    | some ρ1 => setTs ts l ρ1
    | none => none
  | _, _, _ => none
end
mutual
def tgS : Tg → List Nat
  | .nm i => [i]
  | .tup ts => tgSs ts
def tgSs : List Tg → List Nat
  | [] => []
  | t :: ts => tgS t ++ tgSs ts
end
/-- nothing but these slots -/
def Only (l : List Nat) (σ σ' : L2.St) : Prop := σ'.length = σ.length ∧ ∀ j, j ∉ l → σ'[j]? = σ[j]?
def SdG (K : PySem.W.Frag) (g : TG) (t : Tg) : Prop := ∀ P σ H F ρ d v ρ' Q, EnvR K P H F ρ σ → RI K H d v → setT t d ρ = some ρ' → (∀ σ' F', EnvR K P H F' ρ' σ' → (∀ a, Un F' a → Un F a) → Only (tgS t) σ σ' → Q σ' H) → g v σ H Q
def PGd (X : Cx) (e : Expr) (t : Tg) : Prop := ∃ g, PG X e g ∧ SdG X.K g t
theorem EnvR.setI {P : Nat → Option V} {H : Hp} {F : Nat → FS} {ρ : Env} {σ : L2.St} (E : EnvR K P H F ρ σ) {i : Nat} {d : D} {v : V} (hi : i < ρ.length) (r : RI K H d v) : ∃ F', EnvR K P H F' (ρ.set i (.imm d)) (σ.set i (some v)) ∧ ∀ a, Un F' a → Un F a :=
  ⟨_, E.put (S := fun _ => False) (s := .imm d) (o := some v) hi (show SlR K H _ _ (.imm d) (some v) from ⟨v, rfl, r⟩) (fun _ _ _ z => z) (fun _ z => z.elim), fun a z => (PF.Un.put z).elim id False.elim⟩
theorem sdg_nm (i : Nat) : SdG K (gName i) (.nm i) := by
  intro P σ H F ρ d v ρ' Q E r h q
  have hi : i < ρ.length ∧ ρ' = ρ.set i (.imm d) := by
    unfold setT at h
    cases e : ρ[i]? with
    | none => rw [e] at h; cases h
    | some s =>
      rw [e] at h
      cases s with
      | par d => cases h
      | xcp _ _ _ => cases h; exact ⟨lt_of_get e, rfl⟩
      | non => cases h; exact ⟨lt_of_get e, rfl⟩
      | imm _ => cases h; exact ⟨lt_of_get e, rfl⟩
      | own _ => cases h; exact ⟨lt_of_get e, rfl⟩
  obtain ⟨hi, rfl⟩ := hi
  obtain ⟨F', E', sub⟩ := E.setI hi r
  exact q _ F' E' sub ⟨List.length_set .., fun j hj => List.set_get_ne fun e => hj (by rw [e]; exact List.mem_singleton.mpr rfl)⟩
theorem pgd_nm (i : Nat) {x : Str} {pos : Pos} (hN : X.N.Nodup) (hi : X.N[i]? = some x := by rfl) (hx : Loc X.env.scope x := by first | exact .inl rfl | exact .inr rfl) (hf : X.fn x = true ∨ X.env.scope.names.lookup x = some .local := by first | exact .inl rfl | exact .inr rfl) : PGd X (.Name x pos) (.nm i) :=
  ⟨_, pg_name hN hi hx hf, sdg_nm i⟩
end
end PF

namespace PF
open PySem PySem.Spec PyProof.Rows
open L2
section
variable {X : Cx} {W : WX} {K : PySem.W.Frag} {mg : Str → Option Value}
theorem noS {U : FS} {H H' : Hp} {F F' : Nat → FS} {S : FS} (f : Frm (PF.Un F) (fun a => PF.Un F' a ∨ S a) H H') : Frm (PF.Un F) (PF.Un F') H H' := f.less fun _ z => .inl z
theorem addS {H H' : Hp} {F F' : Nat → FS} (f : Frm (PF.Un F) (PF.Un F') H H') : Frm (PF.Un F) (fun a => PF.Un F' a ∨ (fun _ => False) a) H H' := f.less fun _ z => z.elim id False.elim

/-! ### statements -/
def sPass : SS := fun ρ => .nx ρ
def sSeq (a b : SS) : SS := fun ρ => match a ρ with
  | .nx ρ1 => b ρ1
  | o => o
def sBrk : SS := fun ρ => .bk ρ
def sCont : SS := fun ρ => .ct ρ
def sExpr (a : SE) : SS := fun ρ => match a ρ with
  | .ok _ ρ1 => .nx ρ1
  | .exc x ρ1 => .exc x ρ1
  | .fail => .fail
def sRet (a : SE) : SS := fun ρ => match a ρ with
  | .ok v ρ1 => .rt v ρ1
  | .exc x ρ1 => .exc x ρ1
  | .fail => .fail
def sRetN : SS := fun ρ => .rt (.imm .non) ρ
def sIf (c : ST) (a b : SS) : SS := fun ρ => match c ρ with
  | .ok true ρ1 => a ρ1
  | .ok false ρ1 => b ρ1
  | .exc x ρ1 => .exc x ρ1
  | .fail => .fail
def putS (i : Nat) (s : Sl) (ρ : Env) : Option Env := match ρ[i]? with
  | some (.par _) => none
  | none => none
  | _ => some (ρ.set i s)
def sSet (i : Nat) (a : SE) : SS := fun ρ => match a ρ with
  | .ok (.imm d) ρ1 => match putS i (.imm d) ρ1 with
    | some ρ2 => .nx ρ2
    | none => .fail
  | .ok (.own d) ρ1 => match putS i (.own d) ρ1 with
    | some ρ2 => .nx ρ2
    | none => .fail
  | .ok (.ref _) _ => .fail
  | .exc x ρ1 => .exc x ρ1
  | .fail => .fail
def sAsg (t : Tg) (a : SE) : SS := fun ρ => match a ρ with
  | .ok (.imm d) ρ1 => match setT t d ρ1 with
    | some ρ2 => .nx ρ2
    | none => .fail
  | .ok _ _ => .fail
  | .exc x ρ1 => .exc x ρ1
  | .fail => .fail
theorem sd_pass : SdS K mg W tNext sPass := fun P σ H F ρ D E h => h σ H F E (Frm.refl _ _)
theorem sd_seq {t u : TS} {a b : SS} (ha : SdS K mg W t a) (hb : SdS K mg W u b) : SdS K mg W (tSeq t u) (sSeq a b) := by
  intro P σ H F ρ D E h
  refine ha P σ H F ρ _ E ?_
  unfold sSeq at h
  cases ea : a ρ with
  | nx ρ1 => rw [ea] at h; exact fun σ1 H1 F1 E1 f1 => hb P σ1 H1 F1 ρ1 D E1 (h.from (addS f1))
  | rt v ρ1 => rw [ea] at h; exact h
  | bk ρ1 => rw [ea] at h; exact h
  | ct ρ1 => rw [ea] at h; exact h
  | exc x ρ1 => rw [ea] at h; exact h
  | fail => rw [ea] at h; exact h
theorem sd_expr {te : TE} {a : SE} (ha : SdE K mg W te a) : SdS K mg W (tDrop te) (sExpr a) := by
  intro P σ H F ρ D E h
  refine ha P σ H F ρ _ E ?_
  unfold sExpr at h
  cases ea : a ρ with
  | fail => rw [ea] at h; exact h
  | exc x ρ1 => rw [ea] at h; exact fun cls d H1 F1 E1 r f => h cls d σ H1 F1 E1 r f
  | ok v ρ1 => rw [ea] at h; exact fun u H1 F1 S1 E1 R1 dj1 f1 => h σ H1 F1 E1 (f1.less fun _ z => .inl z)
theorem sd_ret {te : TE} {a : SE} (ha : SdE K mg W te a) : SdS K mg W (tRet te) (sRet a) := by
  intro P σ H F ρ D E h
  refine ha P σ H F ρ _ E ?_
  unfold sRet at h
  cases ea : a ρ with
  | fail => rw [ea] at h; exact h
  | exc x ρ1 => rw [ea] at h; exact fun cls d H1 F1 E1 r f => h cls d σ H1 F1 E1 r f
  | ok v ρ1 => rw [ea] at h; exact fun u H1 F1 S1 E1 R1 dj1 f1 => h u σ H1 F1 S1 E1 R1 dj1 f1
theorem sd_ifS {tc : TT} {t u : TS} {c : ST} {a b : SS} (hc : SdT K mg W tc c) (ha : SdS K mg W t a) (hb : SdS K mg W u b) : SdS K mg W (tIfS tc t u) (sIf c a b) := by
  intro P σ H F ρ D E h
  refine hc P σ H F ρ _ E ?_
  unfold sIf at h
  cases ea : c ρ with
  | fail => rw [ea] at h; exact h
  | exc x ρ1 => rw [ea] at h; exact fun cls d H1 F1 E1 r f => h cls d σ H1 F1 E1 r f
  | ok v ρ1 =>
    rw [ea] at h
    intro k H1 F1 S1 E1 R1 dj1 f1
    cases R1
    cases v with
    | true => exact iteT (ha P σ H1 F1 ρ1 D E1 (h.from f1))
    | false => exact iteF (hb P σ H1 F1 ρ1 D E1 (h.from f1))
theorem putS_ok {i : Nat} {s : Sl} {ρ ρ' : Env} (h : putS i s ρ = some ρ') : i < ρ.length ∧ ρ' = ρ.set i s := by
  unfold putS at h
  cases e : ρ[i]? with
  | none => rw [e] at h; cases h
  | some s =>
    rw [e] at h
    cases s with
    | par d => cases h
    | xcp _ _ _ => cases h; exact ⟨lt_of_get e, rfl⟩
    | non => cases h; exact ⟨lt_of_get e, rfl⟩
    | imm _ => cases h; exact ⟨lt_of_get e, rfl⟩
    | own _ => cases h; exact ⟨lt_of_get e, rfl⟩
theorem sd_set {te : TE} {a : SE} (i : Nat) (ha : SdE K mg W te a) : SdS K mg W (tAsg te (gName i)) (sSet i a) := by
  intro P σ H F ρ D E h
  refine ha P σ H F ρ _ E ?_
  unfold sSet at h
  cases ea : a ρ with
  | fail => rw [ea] at h; exact h
  | exc x ρ1 => rw [ea] at h; exact fun cls d H1 F1 E1 r f => h cls d σ H1 F1 E1 r f
  | ok v ρ1 =>
    rw [ea] at h
    intro u H1 F1 S1 E1 R1 dj1 f1
    cases v with
    | ref j => exact h.elim
    | imm d =>
      dsimp only at h
      cases q : putS i (.imm d) ρ1 with
      | none => rw [q] at h; exact h.elim
      | some ρ2 =>
        rw [q] at h
        obtain ⟨hi, rfl⟩ := putS_ok q
        obtain ⟨F2, E2, sub⟩ := E1.setI hi R1
        exact h _ H1 F2 E2 (f1.less fun a z => .inl (sub a z))
    | own d =>
      dsimp only at h
      cases q : putS i (.own d) ρ1 with
      | none => rw [q] at h; exact h.elim
      | some ρ2 =>
        rw [q] at h
        obtain ⟨hi, rfl⟩ := putS_ok q
        exact h _ H1 _ (E1.put (S := S1) (s := .own d) (o := some u) hi (show SlR K H1 S1 _ (.own d) (some u) from ⟨u, rfl, R1.1⟩) dj1 R1.2) (f1.less fun a z => PF.Un.put z)
theorem psd_ret {e : Expr} {a : SE} {pos} (h : PEd X W e a) : PSd X W (.Return (some e) pos) (sRet a) := by
  obtain ⟨te, h1, h2⟩ := h
  exact ⟨_, ps_ret h1, sd_ret h2⟩
theorem psd_expr {e : Expr} {a : SE} {pos : Pos} (h : PEd X W e a) (hs : swapsWith e none pos.line X.env = pure false := by rfl) : PSd X W (.Expr e pos) (sExpr a) := by
  obtain ⟨te, h1, h2⟩ := h
  exact ⟨_, ps_expr h1 hs, sd_expr h2⟩
theorem psd_if {c : Expr} {a b : List Stmt} {sc : ST} {sa sb : SS} {pos} (hc : PTd X W c sc) (ha : PBd X W a sa) (hb : PBd X W b sb) : PSd X W (.If c a b pos) (sIf sc sa sb) := by
  obtain ⟨tc, c1, c2⟩ := hc
  obtain ⟨ta, a1, a2⟩ := ha
  obtain ⟨tb, b1, b2⟩ := hb
  exact ⟨_, ps_if c1 a1 b1, sd_ifS c2 a2 b2⟩
theorem psd_set (i : Nat) {x : Str} {e : Expr} {a : SE} {pos' pos : Pos} (hN : X.N.Nodup) (h : PEd X W e a) (hi : X.N[i]? = some x := by rfl) (hx : Loc X.env.scope x := by first | exact .inl rfl | exact .inr rfl)
    (hs : swapsWith e (some (.Name x pos')) pos.line X.env = pure false := by rfl) (hf : X.fn x = true ∨ X.env.scope.names.lookup x = some .local := by first | exact .inl rfl | exact .inr rfl) : PSd X W (.Assign [.Name x pos'] e pos) (sSet i a) := by
  obtain ⟨te, h1, h2⟩ := h
  exact ⟨_, ps_set hN hi hx h1 hs hf, sd_set i h2⟩
theorem pbd_nil : PBd X W [] sPass := ⟨_, pss_nil, sd_pass⟩
theorem pbd_cons {st : Stmt} {rest : List Stmt} {a b : SS} (h : PSd X W st a) (k : PBd X W rest b) : PBd X W (st :: rest) (sSeq a b) := by
  obtain ⟨t, h1, h2⟩ := h
  obtain ⟨u, k1, k2⟩ := k
  exact ⟨_, pss_cons h1 k1, sd_seq h2 k2⟩
theorem pbd_one {st : Stmt} {a : SS} (h : PSd X W st a) : PBd X W [st] a := by
  obtain ⟨t, h1, h2⟩ := h
  exact ⟨_, pss_one h1, h2⟩

/-! ### what is walked -/
abbrev SI := Env → Out (List D)
def Yl (K : PySem.W.Frag) (J : It) (l : List D) (H0 : Hp) : Prop := ∀ H, Ext H0 H → ∀ i, (i < l.length → J.go i H) ∧ (l.length ≤ i → J.stop i H) ∧ ∀ x H', i < l.length → J.yld i H x H' → ∃ d, l[i]? = some d ∧ RI K H' d x ∧ Grow (fun _ => False) H H'
def SdI (K : PySem.W.Frag) (mg : Str → Option Value) (W : WX) (wi : TI) (si : SI) : Prop := ∀ P σ H F ρ R, EnvR K P H F ρ σ → PostO K mg P W σ (fun H _ l J => Yl K J l H) R F H (si ρ) → wi σ H R
def PId (X : Cx) (W : WX) (tg iter : Expr) (si : SI) : Prop := ∃ wi, PI X tg iter wi ∧ SdI X.K X.mg W wi si
def iAny (K : PySem.W.Frag) (tl : TE) : TI := fun σ H R => tl σ H fun x H1 => (∃ a, x = .ref a ∧ (∃ xs, SqL K H1 a xs) ∧ R (Itl K a) H1) ∨ (∃ a, x = .ref a ∧ (∃ xs, SqT K H1 a xs) ∧ R (Itt K a) H1) ∨ ∃ z, x = .str z ∧ R (Its z) H1
theorem pi_any {tg l : Expr} {tl : TE} (hl : PE X l tl) : PI X tg l (iAny X.K tl) := by
  refine ⟨fun pins s σ H R I h => ?_⟩
  refine thn (hl.run pins s σ H _ I h) fun v s1 hh => ?_
  obtain ⟨x, H1, I1, r1, q1⟩ := hh
  rcases q1 with ⟨a, e, ⟨xs, hq⟩, q⟩ | ⟨a, e, ⟨xs, hq⟩, q⟩ | ⟨z, e, q⟩
  · subst e
    cases r1
    obtain ⟨its, rv, p, hz⟩ := I1.list hq
    exact wpAny_pyIter_list p.isList (pi_one (tk := s1.toks) I1 _ (turn_list a _) ⟨_, Heap.get?_push_size _ rfl, rfl, rfl⟩ q)
  · subst e
    cases r1
    obtain ⟨its, rv, p, hz⟩ := I1.tuple hq
    exact wpAny_pyIter_tuple (show s1.heap.IsTuple a its.toArray from p) (pi_one (tk := s1.toks) I1 _ (turn_tuple a _) ⟨_, Heap.get?_push_size _ rfl, rfl, rfl⟩ q)
  · subst e
    obtain ⟨t, rfl⟩ := r1
    cases ha : z.cps.all (· < 128)
    · exact wpAny_pyIter_wide ha (pi_one (tk := s1.toks) I1 _ (turn_str _ z t "str_iterator" (.inr rfl)) ⟨_, Heap.get?_push_size _ rfl, rfl, rfl⟩ q)
    · exact wpAny_pyIter_ascii ha (pi_one (tk := s1.toks) I1 _ (turn_str _ z t "str_ascii_iterator" (.inl rfl)) ⟨_, Heap.get?_push_size _ rfl, rfl, rfl⟩ q)
def itemsD : D → Option (List D)
  | .lst l => some l
  | .tup l => some l
  | .str s => some (s.map fun c => .str [c])
  | _ => none
def iOf (a : SE) : SI := fun ρ => (a ρ).bind fun v ρ1 => match v with
  | .imm d => match itemsD d with
    | some l => .ok l ρ1
    | none => .fail
  | _ => .fail
theorem sdi_of {tl : TE} {a : SE} (ha : SdE K mg W tl a) : SdI K mg W (iAny K tl) (iOf a) := by
  intro P σ H F ρ R E h
  refine ha P σ H F ρ _ E ?_
  unfold iOf at h
  cases ea : a ρ with
  | fail => rw [ea] at h; exact h
  | exc x ρ1 => rw [ea] at h; exact h
  | ok v ρ1 =>
    rw [ea, Out.bind_ok] at h
    intro u H1 F1 S1 E1 R1 dj1 f1
    cases v with
    | ref j => exact h.elim
    | own d => exact h.elim
    | imm d =>
      dsimp only at h
      cases q : itemsD d with
      | none => rw [q] at h; exact h.elim
      | some l =>
        rw [q] at h
        have fin : ∀ J, Yl K J l H1 → R J H1 := fun J y => (h.from f1) J H1 F1 (fun _ => False) E1 y (fun _ _ _ z => z) (addS (Frm.refl _ _))
        cases d with
        | lst m =>
          cases q
          obtain ⟨a, vs, e, hl, rs⟩ := R1
          refine .inl ⟨a, e, ⟨vs, hl.sq⟩, fin _ fun H2 x2 i => ⟨fun hi => ?_, fun hi => ⟨vs, (hl.mono x2).sq, by rw [rs.length]; exact hi⟩, fun x H3 hi y => ?_⟩⟩
          · exact ⟨vs, vs[i]'(by rw [rs.length]; exact hi), (hl.mono x2).sq, by simp [rs.length, hi]⟩
          · obtain ⟨e3, y⟩ := y
            subst e3
            have hx := y vs (hl.mono x2).sq
            obtain ⟨v, hv, rv⟩ := rs.get (i := i) (d := l[i]) (by simp [hi])
            rw [hv] at hx
            cases hx
            exact ⟨l[i], by simp [hi], RI.mono x2 rv, Grow.refl fun _ z => z⟩
        | tup m =>
          cases q
          obtain ⟨a, vs, e, hl, rs⟩ := R1
          refine .inr (.inl ⟨a, e, ⟨vs, SqT.of hl⟩, fin _ fun H2 x2 i => ⟨fun hi => ?_, fun hi => ⟨vs, SqT.of (hl.mono x2), by rw [rs.length]; exact hi⟩, fun x H3 hi y => ?_⟩⟩)
          · exact ⟨vs, vs[i]'(by rw [rs.length]; exact hi), SqT.of (hl.mono x2), by simp [rs.length, hi]⟩
          · obtain ⟨e3, y⟩ := y
            subst e3
            have hx := y vs (SqT.of (hl.mono x2))
            obtain ⟨v, hv, rv⟩ := rs.get (i := i) (d := l[i]) (by simp [hi])
            rw [hv] at hx
            cases hx
            exact ⟨l[i], by simp [hi], RI.mono x2 rv, Grow.refl fun _ z => z⟩
        | str z =>
          cases q
          cases R1
          have hsz : (mkS z).cps.size = z.length := by simp [mkS]
          refine .inr (.inr ⟨_, rfl, fin _ fun H2 x2 i => ⟨fun hi => by rw [List.length_map] at hi; show i < (mkS z).cps.size; rw [hsz]; exact hi, fun hi => by rw [List.length_map] at hi; show (mkS z).cps.size ≤ i; rw [hsz]; exact hi, fun x H3 hi y => ?_⟩⟩)
          obtain ⟨e3, c, hc, ev⟩ := y
          subst e3 ev
          have hc' : z[i]? = some c := by simpa [mkS] using hc
          exact ⟨.str [c], by rw [List.getElem?_map, hc']; rfl, by show V.str _ = V.str _; rfl, Grow.refl fun _ z => z⟩
        | _ => cases q
theorem pid_of {tg l : Expr} {a : SE} (h : PEd X W l a) : PId X W tg l (iOf a) := by
  obtain ⟨te, h1, h2⟩ := h
  exact ⟨_, pi_any h1, sdi_of h2⟩
def rngD (lo : Int) (n : Nat) : List D := (List.range n).map fun i => .int (lo + (i : Nat))
theorem yl_rng {H : Hp} {lo : Int} {n : Nat} : Yl K (Itr lo n) (rngD lo n) H := fun H2 x2 i => by
  have hl : (rngD lo n).length = n := by simp [rngD]
  refine ⟨fun hi => by rw [hl] at hi; exact hi, fun hi => by rw [hl] at hi; exact hi, fun x H3 hi y => ?_⟩
  obtain ⟨e3, ev⟩ := y
  subst e3 ev
  rw [hl] at hi
  exact ⟨.int (lo + i), by simp [rngD, hi], rfl, Grow.refl fun _ z => z⟩
def small62 (i : Int) : Bool := decide (-(2 ^ 62) ≤ i) && decide (i < 2 ^ 62)
def iRng (a : SA) : SI := fun ρ => (a ρ).bind fun vs ρ1 => match vs with
  | [.imm (.int j)] => if small62 j then .ok (rngD 0 j.toNat) ρ1 else .fail
  | [.imm (.int i), .imm (.int j)] => if small62 i && small62 j then .ok (rngD i (j - i).toNat) ρ1 else .fail
  | _ => .fail
theorem small62_ok {i : Int} (h : small62 i = true) : -(2 ^ 62) ≤ i ∧ i < 2 ^ 62 := by
  unfold small62 at h
  rw [Bool.and_eq_true, decide_eq_true_eq, decide_eq_true_eq] at h
  exact h
theorem sdi_rng1 {ta : TA} {a : SA} (hl : ∀ ρ vs ρ1, a ρ = .ok vs ρ1 → vs.length = 1) (ha : SdA K mg W ta a) : SdI K mg W (L2.iRng1 ta) (iRng a) := by
  intro P σ H F ρ R E h
  refine ha P σ H F ρ _ E ?_
  unfold iRng at h
  cases ea : a ρ with
  | fail => rw [ea] at h; exact h
  | exc x ρ1 => rw [ea] at h; exact h
  | ok v ρ1 =>
    have hl1 := hl _ _ _ ea
    rw [ea, Out.bind_ok] at h
    intro u H1 F1 S1 E1 R1 dj1 f1
    split at h
    · rename_i j
      split at h
      · rename_i hs
        obtain ⟨w, r, e1, e2, e3⟩ := R1
        cases e2; cases e3
        have z := small62_ok hs
        exact ⟨j, e1, z.1, z.2, (h.from f1) _ H1 F1 (fun _ => False) E1 yl_rng (fun _ _ _ z => z) (addS (Frm.refl _ _))⟩
      · exact h.elim
    · simp at hl1
    · exact h.elim
theorem aCons_len {a : SE} {b : SA} {n : Nat} (hb : ∀ ρ vs ρ1, b ρ = .ok vs ρ1 → vs.length = n) : ∀ ρ vs ρ1, aCons a b ρ = .ok vs ρ1 → vs.length = n + 1 := by
  intro ρ vs ρ1 h
  unfold aCons at h
  cases ea : a ρ with
  | fail => rw [ea] at h; cases h
  | exc x ρ1 => rw [ea] at h; cases h
  | ok v ρ2 =>
    rw [ea, Out.bind_ok] at h
    have main : ∀ {v}, ((b ρ2).bind fun vs ρ2 => Out.ok (v :: vs) ρ2) = .ok vs ρ1 → vs.length = n + 1 := fun {v} h => by
      cases eb : b ρ2 with
      | fail => rw [eb] at h; cases h
      | exc x ρ1 => rw [eb] at h; cases h
      | ok w ρ3 => rw [eb] at h; cases h; rw [List.length_cons, hb _ _ _ eb]
    cases v with
    | own d => cases h
    | imm d => exact main h
    | ref i => exact main h
theorem aNil_len : ∀ ρ vs ρ1, aNil ρ = .ok vs ρ1 → vs.length = 0 := fun ρ vs ρ1 h => by cases h; rfl
theorem pid_rng1 {tg a : Expr} {p pos : Pos} {s : SE} (hm : X.mg "range" = none) (ha : PAd X W [a] (aCons s aNil)) (hg : Gl X "range" := by rfl) (hs : starEach [a] X.env = [(false, eval a X.env)] := by rfl) : PId X W tg (.Call (.Name "range" p) [a] [] pos) (iRng (aCons s aNil)) := by
  obtain ⟨ta, a1, a2⟩ := ha
  exact ⟨_, pi_range1 hg hm a1 hs, sdi_rng1 (aCons_len aNil_len) a2⟩
/-! ### loops -/
def forL (t : Tg) (body : SS) : List D → Env → SOut
  | [], ρ => .nx ρ
  | d :: l, ρ => match setT t d ρ with
    | none => .fail
    | some ρ1 => match body ρ1 with
      | .nx ρ2 => forL t body l ρ2
      | .ct ρ2 => forL t body l ρ2
      | .bk ρ2 => .nx ρ2
      | .rt v ρ2 => .rt v ρ2
      | .exc x ρ2 => .exc x ρ2
      | .fail => .fail
def sFor (si : SI) (t : Tg) (body : SS) : SS := fun ρ => match si ρ with
  | .ok l ρ1 => forL t body l ρ1
  | .exc x ρ1 => .exc x ρ1
  | .fail => .fail
theorem sd_for {wi : TI} {g : TG} {tb : TS} {si : SI} {t : Tg} {body : SS} (hi : SdI K mg W wi si) (hg : SdG K g t) (hb : SdS K mg W tb body) : SdS K mg W (tFor wi g tb) (sFor si t body) := by
  intro P σ H F ρ D E h
  refine hi P σ H F ρ _ E ?_
  unfold sFor at h
  cases ea : si ρ with
  | fail => rw [ea] at h; exact h
  | exc x ρ1 => rw [ea] at h; exact fun cls d H1 F1 E1 r f => h cls d σ H1 F1 E1 r f
  | ok l ρ1 =>
    rw [ea] at h
    intro J H1 F1 S1 E1 Y dj1 f1
    refine ⟨fun i m σ' H' => m = l.length - i ∧ i ≤ l.length ∧ ∃ F' ρ', EnvR K P H' F' ρ' σ' ∧ Ext H1 H' ∧ PostS K mg P W D F' H' (forL t body (l.drop i) ρ'), ⟨_, rfl, Nat.zero_le _, F1, ρ1, E1, Ext.refl _, by rw [List.drop_zero]; exact h.from f1⟩, ?_⟩
    rintro i m σ' H' ⟨rfl, hi, F', ρ', E', x', p⟩
    by_cases hlt : i < l.length
    · refine .inr ⟨(Y H' x' i).1 hlt, fun σ2 H2 => ∃ m', m' < l.length - i ∧ (m' = l.length - (i + 1) ∧ i + 1 ≤ l.length ∧ ∃ F' ρ', EnvR K P H2 F' ρ' σ2 ∧ Ext H1 H2 ∧ PostS K mg P W D F' H2 (forL t body (l.drop (i + 1)) ρ')), fun _ _ z => z, fun x H2 y => ?_⟩
      obtain ⟨d, hd, r, g⟩ := (Y H' x' i).2.2 x H2 hlt y
      have ed : l.drop i = d :: l.drop (i + 1) := by
        have e := List.drop_eq_getElem_cons hlt
        rw [List.getElem?_eq_getElem hlt] at hd
        cases hd
        exact e
      rw [ed] at p
      have E2 := E'.grow g
      have p2 : PostS K mg P W D F' H2 (forL t body (d :: l.drop (i + 1)) ρ') := p.from ((Frm.of_grow (U := PF.Un F') g).less fun a z => z.elim (fun z => .inl z) (fun z => .inr z))
      unfold forL at p2
      cases es : setT t d ρ' with
      | none => rw [es] at p2; exact p2.elim
      | some ρ2 =>
        rw [es] at p2
        refine hg P σ' H2 F' ρ' d x ρ2 _ E2 r es fun σ3 F3 E3 sub _ => ?_
        have f3 : Frm (PF.Un F') (fun a => PF.Un F3 a ∨ (fun _ => False) a) H2 H2 := (Frm.refl _ _).less fun a z => z.elim (sub a) False.elim
        refine hb P σ3 H2 F3 ρ2 _ E3 ?_
        have p3 := p2.from f3
        dsimp only at p3
        have again : ∀ ρ4, PostS K mg P W D F3 H2 (forL t body (l.drop (i + 1)) ρ4) → ∀ σ4 H4 F4, EnvR K P H4 F4 ρ4 σ4 → Frm (PF.Un F3) (PF.Un F4) H2 H4 → ∃ m', m' < l.length - i ∧ (m' = l.length - (i + 1) ∧ i + 1 ≤ l.length ∧ ∃ F' ρ', EnvR K P H4 F' ρ' σ4 ∧ Ext H1 H4 ∧ PostS K mg P W D F' H4 (forL t body (l.drop (i + 1)) ρ')) :=
          fun ρ4 q σ4 H4 F4 E4 f4 => ⟨_, by omega, rfl, hlt, F4, ρ4, E4, (x'.trans g.ext).trans f4.ext, q.from (addS f4)⟩
        cases eb : body ρ2 with
        | nx ρ4 => rw [eb] at p3; exact again ρ4 p3
        | ct ρ4 => rw [eb] at p3; exact again ρ4 p3
        | bk ρ4 => rw [eb] at p3; exact p3
        | rt v ρ4 => rw [eb] at p3; exact p3
        | exc x ρ4 => rw [eb] at p3; exact p3
        | fail => rw [eb] at p3; exact p3
    · have e : i = l.length := by omega
      subst e
      rw [List.drop_length] at p
      exact .inl ⟨(Y H' x' _).2.1 (Nat.le_refl _), p σ' H' F' E' (Frm.refl _ _)⟩
theorem psd_for {tg iter : Expr} {body : List Stmt} {si : SI} {t : Tg} {b : SS} {pos : Pos} {k : Nat} (C : Ctx X W k) (hi : PId X W tg iter si) (hg : PGd X tg t) (hb : PBd X W body b) (hs : ∀ x, foldedSetIterable iter X.env x = pure x := by intro _; rfl) :
    PSd X W (.For tg iter body [] pos) (sFor si t b) := by
  obtain ⟨wi, i1, i2⟩ := hi
  obtain ⟨g, g1, g2⟩ := hg
  obtain ⟨tb, b1, b2⟩ := hb
  exact ⟨_, ps_for C.hp C.calm i1 g1 b1 hs, sd_for i2 g2 b2⟩
def whileL (c : ST) (body : SS) : Nat → Env → SOut
  | 0, _ => .fail
  | n + 1, ρ => match c ρ with
    | .fail => .fail
    | .exc x ρ1 => .exc x ρ1
    | .ok false ρ1 => .nx ρ1
    | .ok true ρ1 => match body ρ1 with
      | .nx ρ2 => whileL c body n ρ2
      | .ct ρ2 => whileL c body n ρ2
      | .bk ρ2 => .nx ρ2
      | .rt v ρ2 => .rt v ρ2
      | .exc x ρ2 => .exc x ρ2
      | .fail => .fail
open Classical in
noncomputable def sWhile (c : ST) (body : SS) : SS := fun ρ => if h : ∃ n, whileL c body n ρ ≠ .fail then whileL c body (Classical.choose h) ρ else .fail
theorem whileL_more {c : ST} {body : SS} : ∀ {n : Nat} {ρ : Env} (m : Nat), whileL c body n ρ ≠ .fail → n ≤ m → whileL c body m ρ = whileL c body n ρ
  | 0, ρ, m, h, _ => absurd rfl h
  | n + 1, ρ, m, h, hm => by
    obtain ⟨m, rfl⟩ : ∃ k, m = k + 1 := ⟨m - 1, by omega⟩
    unfold whileL at h ⊢
    cases ec : c ρ with
    | fail => rfl
    | exc x ρ1 => rfl
    | ok b ρ1 =>
      cases b with
      | false => rfl
      | true =>
        rw [ec] at h
        dsimp only at h ⊢
        cases eb : body ρ1 with
        | nx ρ2 => rw [eb] at h; exact whileL_more m h (by omega)
        | ct ρ2 => rw [eb] at h; exact whileL_more m h (by omega)
        | _ => rfl
theorem sWhile_eq {c : ST} {body : SS} {n : Nat} {ρ : Env} (h : whileL c body n ρ ≠ .fail) : sWhile c body ρ = whileL c body n ρ := by
  unfold sWhile
  have hex : ∃ n, whileL c body n ρ ≠ .fail := ⟨n, h⟩
  rw [dif_pos hex]
  have h2 := Classical.choose_spec hex
  rcases Nat.le_total n (Classical.choose hex) with z | z
  · exact whileL_more _ h z
  · exact (whileL_more _ h2 z).symm
theorem sd_while {tc : TT} {tb : TS} {c : ST} {body : SS} (hc : SdT K mg W tc c) (hb : SdS K mg W tb body) : SdS K mg W (tWhile tc tb) (sWhile c body) := by
  intro P σ H F ρ D E h
  have hex : ∃ n, sWhile c body ρ = whileL c body n ρ := by
    unfold sWhile
    split
    · exact ⟨_, rfl⟩
    · exact ⟨0, rfl⟩
  obtain ⟨n, hn⟩ := hex
  rw [hn] at h
  refine ⟨fun m σ' H' => ∃ F' ρ', EnvR K P H' F' ρ' σ' ∧ PostS K mg P W D F' H' (whileL c body m ρ'), ⟨n, F, ρ, E, h⟩, ?_⟩
  rintro m σ' H' ⟨F', ρ', E', p⟩
  cases m with
  | zero => exact p.elim
  | succ m =>
    refine hc P σ' H' F' ρ' _ E' ?_
    unfold whileL at p
    cases ec : c ρ' with
    | fail => rw [ec] at p; exact p
    | exc x ρ1 => rw [ec] at p; exact fun cls d H1 F1 E1 r f => p cls d σ' H1 F1 E1 r f
    | ok b ρ1 =>
      rw [ec] at p
      intro k H1 F1 S1 E1 R1 dj1 f1
      cases R1
      cases b with
      | false => exact iteF (p σ' H1 F1 E1 (f1.less fun _ z => .inl z))
      | true =>
        refine iteT ⟨fun σ2 H2 => ∃ m', m' < m + 1 ∧ ∃ F' ρ', EnvR K P H2 F' ρ' σ2 ∧ PostS K mg P W D F' H2 (whileL c body m' ρ'), fun _ _ z => z, ?_⟩
        dsimp only at p
        refine hb P σ' H1 F1 ρ1 _ E1 ?_
        have p3 := p.from f1
        have again : ∀ ρ4, PostS K mg P W D F1 H1 (whileL c body m ρ4) → ∀ σ4 H4 F4, EnvR K P H4 F4 ρ4 σ4 → Frm (PF.Un F1) (PF.Un F4) H1 H4 → ∃ m', m' < m + 1 ∧ ∃ F' ρ', EnvR K P H4 F' ρ' σ4 ∧ PostS K mg P W D F' H4 (whileL c body m' ρ') :=
          fun ρ4 q σ4 H4 F4 E4 f4 => ⟨m, Nat.lt_succ_self _, F4, ρ4, E4, q.from (addS f4)⟩
        cases eb : body ρ1 with
        | nx ρ4 => rw [eb] at p3; exact again ρ4 p3
        | ct ρ4 => rw [eb] at p3; exact again ρ4 p3
        | bk ρ4 => rw [eb] at p3; exact p3
        | rt v ρ4 => rw [eb] at p3; exact p3
        | exc x ρ4 => rw [eb] at p3; exact p3
        | fail => rw [eb] at p3; exact p3
theorem psd_while {c : Expr} {body : List Stmt} {sc : ST} {b : SS} {pos : Pos} {k : Nat} (C : Ctx X W k) (hc : PTd X W c sc) (hb : PBd X W body b) : PSd X W (.While c body [] pos) (sWhile sc b) := by
  obtain ⟨tc, c1, c2⟩ := hc
  obtain ⟨tb, b1, b2⟩ := hb
  exact ⟨_, ps_while C.hp c1 b1, sd_while c2 b2⟩
end
end PF

/-! list(reversed(xs)), a list xs -/
namespace PF
open PySem PySem.Calls PyProof.Rows
section
variable {prog : Program} {w : World} {A : Around} {E : Value → Shared → Prop} {z : Shared}
def Backw (its : Array Value) : Nat → Value → Prop := fun j v => its[its.size - 1 - j]? = some v
theorem lrev_ext {R : Result → Shared → Prop} {r l : Addr} {its : Array Value} (hh : A.handled = none) (hr : z.heap.IsRevIter r l ((its.size : Int) - 1)) (hl : z.heap.IsList l its) (lr : l ≠ r) (hn : its.size ≤ sizeLine)
    (S : Addr) (Sr : S ≠ r) (Sl : S ≠ l) (c0 : Nat) (hS : z.heap.get? S = some { cls := .type "list", data := .seq #[] c0 })
    (k : ∀ h' tk acc c', (∀ b o, b ≠ S → b ≠ r → z.heap.get? b = some o → h'.get? b = some o) → h'.get? S = some { cls := .type "list", dict := none, data := .seq acc c', slots := #[] } → ItemsOf (Backw its) acc its.size → R (.ok (.ret .none)) { z with heap := h', toks := tk }) :
    wpAny (model prog w) A.in1 (Builtin.List.listExtendWith (.ref S) (.ref r) .none)
      (fun fin z' => match fin with
        | .done f => R (.ok f) z'
        | .again c' => c'.quiet = true ∧ codeAny (model prog w) A c' R z') (fun e z' => R (.error e) z') z := by
  have Wk := (Walks.listRev (prog := prog) (w := w) (A := A.in1) hh r l lr its).toS
  have Sf : S ∉ [r, l] := by simp [Sr, Sl]
  have ty : z.TypeIs (.ref r) "list_reverseiterator" := Heap.IsRevIter.typeIs hr
  have ns : Builtin.List.listSameRef (.ref S) (.ref r) = false := by simp [Builtin.List.listSameRef, Sr]
  unfold Builtin.List.listExtendWith
  refine wpAny_bind (wpAny_typeOf ty ?_)
  rw [if_neg (show ¬ _ = true by rw [ns]; decide)]
  refine wpAny_bind (wpAny_pyIter_revIter hr ?_)
  refine wpAny_bind (wpAny_holding ?_)
  unfold Builtin.List.listLengthHint
  refine wpAny_bind (wpAny_specialOf ty RT.nolen_lri ?_)
  show wpAny _ A.in1 (specialOf (.ref r) (Str.ofString "__length_hint__") >>= fun _ => _) _ _ _
  refine wpAny_bind (wpAny_specialOf ty RT.hint_lri ?_)
  generalize hw : ("list_reverseiterator.__length_hint__" : String) = wd
  wp_delta
  rw [show splitId wd = some ("list_reverseiterator", "__length_hint__") by subst hw; decide +kernel]
  subst hw
  refine wpAny_bind (wpAny_isInstance (b := true) ty (by rw [isSubtype_type] <;> kernel_rfl) ?_)
  refine wpAny_pure ?_
  rw [if_neg (show ¬ _ = true by decide)]
  have e1 : ((its.size : Nat) : Int) - 1 - ((0 : Nat) : Int) = (its.size : Int) - 1 := by omega
  refine wpAny_pure ⟨plainId_quiet F.plain_extend_loop _, codeAny_extend_loopS Wk hn S Sf .none its.size 0 _ #[] c0 rfl (Nat.zero_le _) ⟨Nat.zero_le _, by rw [e1]; exact hr, hl⟩ hS (ItemsOf.nil _) fun z' acc c' mv hS' ha => ?_⟩
  rw [Moved.eq_with mv]
  refine k z'.heap z'.toks acc c' (fun b o hb hb2 e => mv.heap b o (fun hm => ?_) e) hS' ha
  rcases List.mem_cons.mp hm with q | q
  · exact hb q
  · exact hb2 (List.mem_singleton.mp q)
theorem lrev_call {Q : Value → Shared → Prop} {r l : Addr} {its : Array Value} (hh : A.handled = none) (hr : z.heap.IsRevIter r l ((its.size : Int) - 1)) (hl : z.heap.IsList l its) (lr : l ≠ r) (hn : its.size ≤ sizeLine)
    (k : ∀ h' tk acc c', (∀ b o, b ≠ r → z.heap.get? b = some o → h'.get? b = some o) → h'.get? z.heap.objs.size = some { cls := .type "list", dict := none, data := .seq acc c', slots := #[] } → ItemsOf (Backw its) acc its.size → Q (.ref z.heap.objs.size) { z with heap := h', toks := tk }) :
    wpAny (model prog w) A (call (.type "list") [.ref r]) Q E z := by
  refine callType_codes (Q₁ := fun ob z1 => ob = .ref z.heap.objs.size ∧ z1 = { z with heap := z.heap.push { cls := .type "list", data := .seq #[] } }) PySem.F.called_list (PySem.F.typeCall_list_1 _) PySem.F.entry_list_init (code_list_new _ ⟨rfl, rfl⟩) fun ob z1 hz => ?_
  obtain ⟨rfl, rfl⟩ := hz
  generalize hSd : z.heap.objs.size = S
  have hS : (z.heap.push { cls := .type "list", data := .seq #[] }).get? S = some { cls := .type "list", data := .seq #[] } := by rw [← hSd]; exact Heap.get?_push_size _ rfl
  obtain ⟨orr, hor, _⟩ := id hr
  obtain ⟨ol, hol, _⟩ := id hl
  have Sr : S ≠ r := by rw [← hSd]; exact Nat.ne_of_gt (Heap.lt_size hor)
  have Sl : S ≠ l := by rw [← hSd]; exact Nat.ne_of_gt (Heap.lt_size hol)
  refine ⟨⟨_, hS, rfl⟩, PySem.F.args_list_init_2 _ _, ?_⟩
  show wpAny _ _ (Builtin.List.listItems (.ref S) >>= fun old => Builtin.List.listUpdate (.ref S) (fun _ => #[]) >>= fun _ => letGo old.toList.reverse >>= fun _ => Builtin.List.listExtendWith (.ref S) (.ref r) .none) _ _ _
  refine wpAny_bind ?_
  unfold Builtin.List.listItems
  refine wpAny_bind (wpAny_seqItems hS rfl ?_)
  refine wpAny_pure ?_
  show wpAny _ _ (updateSeq S (fun _ => (#[] : Array Value)) >>= fun _ => letGo ((#[] : Array Value).toList.reverse) >>= fun _ => Builtin.List.listExtendWith (.ref S) (.ref r) .none) _ _ _
  refine wpAny_bind (wpAny_updateSeq hS rfl ?_)
  have hS2 := Heap.get?_update_self (Obj.mapSeq (fun _ => (#[] : Array Value))) hS rfl
  have old : ∀ b o, b ≠ S → z.heap.get? b = some o → ((z.heap.push { cls := .type "list", data := .seq #[] }).update S (Obj.mapSeq (fun _ => (#[] : Array Value)))).get? b = some o :=
    fun b o hb e => (Heap.get?_update_other _ _ hb.symm).trans (Heap.get?_push_of_some _ e)
  refine wpAny_bind (wpAny_letGo ?_)
  refine lrev_ext (A := A.in1) hh (hr.at fun o e => old r o Sr.symm e) (hl.at fun o e => old l o Sl.symm e) lr hn S Sr Sl _ hS2 fun h' tk acc c' kk hS' ha => ?_
  subst hSd
  exact ⟨rfl, k h' tk acc c' (fun b o hb e => kk b o (Nat.ne_of_lt (Heap.lt_size e)) hb (old b o (Nat.ne_of_lt (Heap.lt_size e)) e)) hS' ha⟩
end
end PF
namespace PF
open PySem PySem.Spec PyProof.Rows
open L2
theorem backw_vals {xs : List V} {its : List Value} {acc : Array Value} (r : Vals xs its) (h : ItemsOf (Backw its.toArray) acc its.toArray.size) : Vals xs.reverse acc.toList := by
  have e : acc.toList = its.reverse := by
    apply List.ext_getElem?
    intro j
    have hs : acc.size = its.length := by have := h.1; simpa using this
    by_cases hj : j < its.length
    · have h1 : acc[j]? = some (acc[j]'(by omega)) := Array.getElem?_eq_getElem (by omega)
      have h2 := h.2 j _ h1
      unfold Backw at h2
      rw [Array.getElem?_toList, h1, List.getElem?_reverse hj]
      simpa using h2.symm
    · rw [List.getElem?_eq_none (by simp [hs]; omega), List.getElem?_eq_none (by simp; omega)]
  rw [e]
  exact Vals.reverse r
section
variable {X : Cx} {W : WX} {K : PySem.W.Frag} {mg : Str → Option Value}
def rLrev (K : PySem.W.Frag) : V → Hp → VK → Prop := fun x H Q => ∃ a xs, x = .ref a ∧ SqL K H a xs ∧ ∀ p, H p = none → Q (.ref p) (upd H p (.lst xs.reverse))
theorem pe_lrev {e : Expr} {te : TE} {p1 p2 pos1 pos2 : Pos} (hc : X.calm = true) (hm : X.mg "list" = none) (hm2 : X.mg "reversed" = none) (he : PE X e te) (hg : Gl X "list" := by rfl) (hg2 : Gl X "reversed" := by rfl) (na : starEach [e] X.env = (false, eval e X.env) :: starEach [] X.env := by rfl)
    (nb : starEach [.Call (.Name "reversed" p2) [e] [] pos2] X.env = (false, eval (.Call (.Name "reversed" p2) [e] [] pos2) X.env) :: starEach [] X.env := by rfl) :
    PE X (.Call (.Name "list" p1) [.Call (.Name "reversed" p2) [e] [] pos2] [] pos1) (fun σ H Q => te σ H fun x H1 => rLrev X.K x H1 Q) := by
  refine ⟨fun pins s σ H Q I h => ?_⟩
  refine Call_ (ld_blt I hg hm boot_list (PyProof.Rows.callWith_type1 (args_cons ?_ nb) nb))
  refine Call_ (ld_blt I hg2 hm2 boot_reversed (PyProof.Rows.callWith_type1 (one_arg he I h (fun v s2 x H2 I2 rx q => ?_) na) na))
  obtain ⟨a, xs, ex, hx, q⟩ := q
  subst ex
  cases rx
  obtain ⟨its, rv, pl, hz⟩ := I2.list hx
  refine call_reversed_list pl.isList (args_nil ?_)
  have hlen := rv.length
  have hpl : (s2.heap.push (revObj a ((its.toArray.size : Int) - 1))).IsList a its.toArray := pl.isList.push _
  have hne : a ≠ s2.heap.objs.size := by
    obtain ⟨o, ho, _⟩ := pl.isList
    exact Nat.ne_of_lt (Heap.lt_size ho)
  refine lrev_call (z := { s2 with heap := s2.heap.push (revObj a ((its.toArray.size : Int) - 1)) }) (r := s2.heap.objs.size) (l := a) (its := its.toArray) (I2.ok.hd hc) ⟨_, Heap.get?_push_size _ rfl, rfl, rfl⟩ hpl hne (by rw [List.size_toArray]; omega) fun h' tk acc c' kk hS ha => ?_
  have hold : ∀ b o, s2.heap.get? b = some o → h'.get? b = some o := fun b o e => kk b o (Nat.ne_of_lt (Heap.lt_size e)) (Heap.get?_push_of_some _ e)
  have hsz : (s2.heap.push (revObj a ((its.toArray.size : Int) - 1))).objs.size = s2.heap.objs.size + 1 := Heap.size_push ..
  refine ⟨.ref (s2.heap.push (revObj a ((its.toArray.size : Int) - 1))).objs.size, upd H2 (s2.heap.push (revObj a ((its.toArray.size : Int) - 1))).objs.size (.lst xs.reverse), I2.laid hold (by rw [hsz]; omega) ⟨?_, acc.toList, c', backw_vals rv ha, ?_⟩, rfl, q _ (I2.hok.fresh (by rw [hsz]; omega))⟩
  · rw [List.length_reverse]; exact hz
  · rw [Array.toArray_toList]; exact hS
end
end PF

/-! list comprehensions -/
namespace PF
open PySem PySem.Spec PyProof.Rows
open L2
section
variable {X : Cx} {W : WX} {K : PySem.W.Frag} {mg : Str → Option Value}
def wipeE (ρ : Env) : List Nat → Env
  | [] => ρ
  | i :: vs => (wipeE ρ vs).set i .non
def restE (ρ1 : Env) : List Nat → Env → Env
  | [], ρ => ρ
  | i :: vs, ρ => (restE ρ1 vs ρ).set i (ρ1.getD i .non)
def immAt (ρ : Env) : List Nat → Bool
  | [] => true
  | i :: vs => (match ρ[i]? with
    | some (.imm _) => true
    | some .non => true
    | _ => false) && immAt ρ vs
def lcL (t : Tg) (c : ST) (e : SE) : List D → List D → Env → Out (List D)
  | [], acc, ρ => .ok acc ρ
  | d :: l, acc, ρ => match setT t d ρ with
    | none => .fail
    | some ρ1 => (c ρ1).bind fun k ρ2 => if k then (e ρ2).bind fun v ρ3 => match v with
        | .imm x => if acc.length < big then lcL t c e l (acc ++ [x]) (wipeE ρ3 (tgS t)) else .fail
        | _ => .fail
      else lcL t c e l acc (wipeE ρ2 (tgS t))
def eLc (si : SI) (t : Tg) (c : ST) (e : SE) : SE := fun ρ => (si ρ).bind fun l ρ1 => if immAt ρ1 (tgS t) then match lcL t c e l [] (wipeE ρ1 (tgS t)) with
    | .ok acc ρ2 => .ok (.own (.lst acc)) (restE ρ1 (tgS t) ρ2)
    | _ => .fail
  else .fail
def stYes : ST := fun ρ => .ok true ρ
theorem wipe_get {σ : L2.St} {j : Nat} : ∀ {vs : List Nat}, (wipe σ vs)[j]? = if j ∈ vs then σ[j]?.map fun _ => none else σ[j]?
  | [] => by simp [wipe]
  | v :: vs => by
    unfold wipe
    by_cases e : j = v
    · subst e
      rw [if_pos List.mem_cons_self]
      by_cases hl : j < σ.length
      · rw [List.getElem?_set_self (by rw [wipe_length]; exact hl), List.getElem?_eq_getElem hl]; rfl
      · rw [List.getElem?_eq_none (by rw [List.length_set, wipe_length]; omega), List.getElem?_eq_none (by omega)]; rfl
    · rw [List.set_get_ne e, wipe_get (vs := vs)]
      by_cases hv : j ∈ vs
      · rw [if_pos hv, if_pos (List.mem_cons_of_mem _ hv)]
      · rw [if_neg hv, if_neg (by rw [List.mem_cons, not_or]; exact ⟨e, hv⟩)]
theorem wipe_only {σ σ' : L2.St} {vs : List Nat} (h : Only vs σ σ') : wipe σ' vs = wipe σ vs := by
  apply List.ext_getElem?
  intro j
  rw [wipe_get, wipe_get]
  by_cases hv : j ∈ vs
  · rw [if_pos hv, if_pos hv]
    by_cases hl : j < σ.length
    · have a1 : σ'[j]? = some (σ'[j]'(by rw [h.1]; exact hl)) := List.getElem?_eq_getElem _
      have a2 : σ[j]? = some σ[j] := List.getElem?_eq_getElem hl
      rw [a1, a2]; rfl
    · have a1 : σ'[j]? = none := List.getElem?_eq_none (by rw [h.1]; omega)
      have a2 : σ[j]? = none := List.getElem?_eq_none (by omega)
      rw [a1, a2]
  · rw [if_neg hv, if_neg hv, h.2 j hv]
theorem wipe_wipe {σ : L2.St} {vs : List Nat} : wipe (wipe σ vs) vs = wipe σ vs := by
  refine wipe_only ⟨wipe_length _ _, fun j hj => ?_⟩
  rw [wipe_get, if_neg hj]
theorem EnvR.wipe1 {P : Nat → Option V} {H : Hp} {F : Nat → FS} {ρ : Env} {σ : L2.St} (E : EnvR K P H F ρ σ) (i : Nat) : ∃ F', EnvR K P H F' (ρ.set i .non) (σ.set i none) ∧ ∀ a, PF.Un F' a → PF.Un F a := by
  by_cases hi : i < ρ.length
  · exact ⟨_, E.put (S := fun _ => False) (s := .non) (o := none) hi trivial (fun _ _ _ z => z) (fun _ z => z.elim), fun a z => (PF.Un.put z).elim id False.elim⟩
  · rw [List.set_eq_of_length_le (by omega), List.set_eq_of_length_le (by rw [E.len]; omega)]
    exact ⟨F, E, fun _ z => z⟩
theorem EnvR.wipe {P : Nat → Option V} {H : Hp} {F : Nat → FS} {ρ : Env} {σ : L2.St} (E : EnvR K P H F ρ σ) : ∀ vs : List Nat, ∃ F', EnvR K P H F' (wipeE ρ vs) (L2.wipe σ vs) ∧ ∀ a, PF.Un F' a → PF.Un F a
  | [] => ⟨F, E, fun _ z => z⟩
  | v :: vs => by
    obtain ⟨F1, E1, s1⟩ := EnvR.wipe E vs
    obtain ⟨F2, E2, s2⟩ := E1.wipe1 v
    exact ⟨F2, E2, fun a z => s1 a (s2 a z)⟩
theorem EnvR.rest {P : Nat → Option V} {H H1 : Hp} {F F1 : Nat → FS} {ρ ρ1 : Env} {σ : L2.St} (E1 : EnvR K P H1 F1 ρ1 σ) (x : Ext H1 H) : ∀ (vs : List Nat), immAt ρ1 vs = true → ∀ {σ' : L2.St}, σ'.length = σ.length → (∀ j, j ∉ vs → σ'[j]? = σ[j]?) → EnvR K P H F ρ σ' → ∃ (F' : Nat → FS) (σ2 : L2.St), EnvR K P H F' (restE ρ1 vs ρ) σ2 ∧ (∀ a, PF.Un F' a → PF.Un F a) ∧ σ2.length = σ.length ∧ (∀ j : Nat, σ2[j]? = σ[j]?)
  | [], _, σ', hl, ho, E => ⟨F, σ', E, fun _ z => z, hl, fun j => ho j (by simp)⟩
  | v :: vs, hi, σ', hl, ho, E => by
    have hi' : ((match ρ1[v]? with
      | some (.imm _) => true
      | some .non => true
      | _ => false) && immAt ρ1 vs) = true := hi
    rw [Bool.and_eq_true] at hi'
    have hvl : v < ρ1.length := by
      by_cases h : v < ρ1.length
      · exact h
      · rw [List.getElem?_eq_none (by omega)] at hi'; cases hi'.1
    -- put the outer content of v first
    have hs : SlR K H (fun _ => False) (P v) (ρ1.getD v .non) σ[v]?.join := by
      have e : ρ1.getD v .non = ρ1[v] := by simp [hvl]
      have z := E1.sl v _ (List.getElem?_eq_getElem hvl)
      rw [List.getElem?_eq_getElem hvl] at hi'
      rw [e]
      cases q : ρ1[v] with
      | non => trivial
      | imm d => rw [q] at z; obtain ⟨u, h1, h2⟩ := z; exact ⟨u, h1, h2.mono x⟩
      | own d => rw [q] at hi'; cases hi'.1
      | par d => rw [q] at hi'; cases hi'.1
      | xcp _ _ _ => rw [q] at hi'; cases hi'.1
    have hv2 : v < ρ.length := by rw [← E.len, hl, E1.len]; exact hvl
    by_cases hmem : v ∈ vs
    · -- v stands twice: the same content once more
      obtain ⟨F2, σ2, E2, s2, l2, o2⟩ := EnvR.rest E1 x vs hi'.2 (σ' := σ') hl (fun j hj => ho j (by rw [List.mem_cons, not_or]; exact ⟨fun e => hj (e ▸ hmem), hj⟩)) E
      have hv3 : v < (restE ρ1 vs ρ).length := by rw [← E2.len, l2, E1.len]; exact hvl
      have E3 := E2.put (S := fun _ => False) (s := ρ1.getD v .non) (o := σ[v]?.join) hv3 hs (fun _ _ _ z => z) (fun _ z => z.elim)
      refine ⟨_, _, E3, fun a z => s2 a ((PF.Un.put z).elim id False.elim), by rw [List.length_set, l2], fun j => ?_⟩
      by_cases e : j = v
      · subst e
        have hl3 : j < σ.length := by rw [E1.len]; exact hvl
        rw [List.getElem?_set_self (by rw [l2]; exact hl3), List.getElem?_eq_getElem hl3]; rfl
      · rw [List.set_get_ne e, o2]
    · -- elsewhere first
      have hv4 : v < σ'.length := by rw [hl, E1.len]; exact hvl
      have E0 := E.put (S := fun _ => False) (s := .non) (o := σ[v]?.join) hv2 trivial (fun _ _ _ z => z) (fun _ z => z.elim)
      have hol : ∀ j, j ∉ vs → (σ'.set v σ[v]?.join)[j]? = σ[j]? := fun j hj => by
        by_cases e : j = v
        · subst e
          have hl3 : j < σ.length := by rw [E1.len]; exact hvl
          rw [List.getElem?_set_self hv4, List.getElem?_eq_getElem hl3]; rfl
        · rw [List.set_get_ne e]; exact ho j (by rw [List.mem_cons, not_or]; exact ⟨e, hj⟩)
      obtain ⟨F2, σ2, E2, s2, l2, o2⟩ := EnvR.rest E1 x vs hi'.2 (ρ := ρ.set v .non) (σ' := σ'.set v σ[v]?.join) (by rw [List.length_set]; exact hl) hol E0
      have hv3 : v < (restE ρ1 vs (ρ.set v .non)).length := by rw [← E2.len, l2, E1.len]; exact hvl
      have E3 := E2.put (S := fun _ => False) (s := ρ1.getD v .non) (o := σ[v]?.join) hv3 hs (fun _ _ _ z => z) (fun _ z => z.elim)
      have er : (restE ρ1 vs (ρ.set v .non)).set v (ρ1.getD v .non) = restE ρ1 (v :: vs) ρ := by
        have aux : ∀ (us : List Nat), v ∉ us → ∀ r : Env, (restE ρ1 us (r.set v .non)).set v (ρ1.getD v .non) = (restE ρ1 us r).set v (ρ1.getD v .non) := by
          intro us
          induction us with
          | nil => intro _ r; simp [restE]
          | cons u us ih =>
            intro hu r
            rw [List.mem_cons, not_or] at hu
            unfold restE
            rw [List.set_comm _ _ (Ne.symm hu.1), ih hu.2, List.set_comm _ _ hu.1]
        exact aux vs hmem ρ
      rw [er] at E3
      refine ⟨_, _, E3, fun a z => (PF.Un.put (s2 a ((PF.Un.put z).elim id False.elim))).elim id False.elim, by rw [List.length_set, l2], fun j => ?_⟩
      by_cases e : j = v
      · subst e
        have hl3 : j < σ.length := by rw [E1.len]; exact hvl
        rw [List.getElem?_set_self (by rw [l2]; exact hl3), List.getElem?_eq_getElem hl3]; rfl
      · rw [List.set_get_ne e, o2]
theorem Frm.lay {U : FS} {H : Hp} {a : Addr} {o : HO} (h : H a = none) : Frm U (fun b => U b ∨ b = a) H (upd H a o) where
  keep := fun b o' _ e => by rw [upd_ne (ne_of_none e h)]; exact e
  ext := ⟨fun b xs q => by rw [upd_ne (ne_of_none q h)]; exact q, fun b o u q => by rw [upd_ne (ne_of_none q h)]; exact q, fun b fs q => by rw [upd_ne (ne_of_none q h)]; exact q⟩
  dom := fun b q => by
    by_cases z : b = a
    · rw [z, upd_same]; exact fun z => nomatch z
    · rw [upd_ne z]; exact q
  sub := fun b q => q.imp id fun e => by rw [e]; exact h
theorem sd_lc {wi : TI} {g : TG} {tt : TT} {te : TE} {si : SI} {t : Tg} {c : ST} {e : SE} (hi : SdI K mg W wi si) (hg : SdG K g t) (hc : SdT K mg (fun _ _ _ _ => False) tt c) (he : SdE K mg (fun _ _ _ _ => False) te e) : SdE K mg W (tLc wi g tt te (tgS t)) (eLc si t c e) := by
  intro P σ H F ρ Q E h
  refine hi P σ H F ρ _ E ?_
  unfold eLc at h
  cases ea : si ρ with
  | fail => rw [ea] at h; exact h
  | exc x ρ1 => rw [ea] at h; exact h
  | ok l ρ1 =>
    rw [ea, Out.bind_ok] at h
    intro J H1 F1 S1 E1 Y dj1 f1
    split at h
    · rename_i him
      have h := h.from f1
      cases eo : lcL t c e l [] (wipeE ρ1 (tgS t)) with
      | fail => rw [eo] at h; exact h.elim
      | exc x ρ2 => rw [eo] at h; exact h.elim
      | ok accF ρF =>
        rw [eo] at h
        intro Dl hD
        obtain ⟨F0, E0, s0⟩ := E1.wipe (tgS t)
        have lay : Frm (PF.Un F1) (fun b => PF.Un F1 b ∨ b = Dl) H1 (upd H1 Dl (.lst [])) := Frm.lay hD
        have nD : ∀ i, ¬ F0 i Dl := fun i z => E0.dom i Dl z hD
        refine ⟨fun i m H' => m = l.length - i ∧ i ≤ l.length ∧ ∃ F' ρ' acc vs, EnvR K P H' F' ρ' (L2.wipe σ (tgS t)) ∧ H' Dl = some (.lst vs) ∧ RIs K H' acc vs ∧ (∀ i, ¬ F' i Dl) ∧ Frm (PF.Un F1) (fun b => PF.Un F' b ∨ b = Dl) H1 H' ∧ lcL t c e (l.drop i) acc ρ' = .ok accF ρF,
          ⟨_, rfl, Nat.zero_le _, F0, _, [], [], E0.keep (fun b o _ q => by rw [upd_ne (ne_of_none q hD)]; exact q) lay.ext lay.dom, upd_same, rfl, nD, lay.less fun b z => z.imp (s0 b) id, by rw [List.drop_zero]; exact eo⟩, ?_⟩
        rintro i m H' ⟨rfl, hil, F', ρ', acc, vs, E', hDl, rs, nD', f', el⟩
        by_cases hlt : i < l.length
        · refine .inr ⟨(Y H' f'.ext i).1 hlt, fun H2 => ∃ m', m' < l.length - i ∧ (m' = l.length - (i + 1) ∧ i + 1 ≤ l.length ∧ ∃ F' ρ' acc vs, EnvR K P H2 F' ρ' (L2.wipe σ (tgS t)) ∧ H2 Dl = some (.lst vs) ∧ RIs K H2 acc vs ∧ (∀ i, ¬ F' i Dl) ∧ Frm (PF.Un F1) (fun b => PF.Un F' b ∨ b = Dl) H1 H2 ∧ lcL t c e (l.drop (i + 1)) acc ρ' = .ok accF ρF), fun _ z => z, fun x H2 y => ?_⟩
          obtain ⟨d, hd, r, gr⟩ := (Y H' f'.ext i).2.2 x H2 hlt y
          have ed : l.drop i = d :: l.drop (i + 1) := by
            have e := List.drop_eq_getElem_cons hlt
            rw [List.getElem?_eq_getElem hlt] at hd
            cases hd
            exact e
          rw [ed] at el
          unfold lcL at el
          cases es : setT t d ρ' with
          | none => rw [es] at el; cases el
          | some ρ2 =>
            rw [es] at el
            dsimp only at el
            have E2 := E'.grow gr
            have f2 : Frm (PF.Un F1) (fun b => PF.Un F' b ∨ b = Dl) H1 H2 := f'.trans ((Frm.of_grow (S := fun _ => False) (U := fun b => PF.Un F' b ∨ b = Dl) gr).less fun b z => .inl z)
            refine hg P _ H2 F' ρ' d x ρ2 _ E2 r es fun σ3 F3 E3 sub o3 => ⟨(wipe_only o3).trans wipe_wipe, ?_⟩
            refine hc P σ3 H2 F3 ρ2 _ E3 ?_
            have hw3 : L2.wipe σ3 (tgS t) = L2.wipe σ (tgS t) := (wipe_only o3).trans wipe_wipe
            cases ec : c ρ2 with
            | fail => rw [ec] at el; cases el
            | exc x ρ4 => rw [ec] at el; cases el
            | ok k ρ4 =>
              rw [ec, Out.bind_ok] at el
              intro k' H4 F4 S4 E4 R4 dj4 f4
              cases R4
              have nD3 : ¬ PF.Un F3 Dl := fun z => by obtain ⟨j, z⟩ := sub _ z; exact nD' j z
              have hD4 : H4 Dl = some (.lst vs) := f4.keep _ _ nD3 (gr.keep _ _ hDl)
              have nD4 : ∀ i, ¬ F4 i Dl := fun i z => by
                rcases f4.sub Dl (.inl ⟨i, z⟩) with q | q
                · exact nD3 q
                · rw [gr.keep _ _ hDl] at q; cases q
              have f4' : Frm (PF.Un F1) (fun b => PF.Un F4 b ∨ b = Dl) H1 H4 := by
                have w : Frm (fun b => PF.Un F' b ∨ b = Dl) (fun b => PF.Un F4 b ∨ b = Dl) H2 H4 :=
                  ⟨fun b o n q => f4.keep b o (fun z => n (.inl (sub b z))) q, f4.ext, f4.dom, fun b z => z.elim (fun z => (f4.sub b (.inl z)).imp (fun z => .inl (sub b z)) id) fun z => .inl (.inr z)⟩
                exact f2.trans w
              have rs4 : RIs K H4 acc vs := (rs.mono gr.ext).mono f4.ext
              cases k with
              | false =>
                refine iteF ?_
                rw [if_neg Bool.false_ne_true] at el
                obtain ⟨F5, E5, s5⟩ := E4.wipe (tgS t)
                rw [hw3] at E5
                exact ⟨_, by omega, rfl, hlt, F5, _, acc, vs, E5, hD4, rs4, fun i z => by obtain ⟨j, z⟩ := s5 _ ⟨i, z⟩; exact nD4 j z, f4'.less fun b z => z.imp (s5 b) id, el⟩
              | true =>
                refine iteT ?_
                rw [if_pos rfl] at el
                refine he P σ3 H4 F4 ρ4 _ E4 ?_
                cases ee : e ρ4 with
                | fail => rw [ee] at el; cases el
                | exc x ρ5 => rw [ee] at el; cases el
                | ok v ρ5 =>
                  rw [ee, Out.bind_ok] at el
                  intro u H5 F5 S5 E5 R5 dj5 f5
                  cases v with
                  | own d => cases el
                  | ref j => cases el
                  | imm d' =>
                    dsimp only at el
                    split at el
                    · rename_i hac
                      have nD5' : ¬ PF.Un F4 Dl := fun z => by obtain ⟨j, z⟩ := z; exact nD4 j z
                      have hD5 : H5 Dl = some (.lst vs) := f5.keep _ _ nD5' hD4
                      have nD5 : ∀ i, ¬ F5 i Dl := fun i z => by
                        rcases f5.sub Dl (.inl ⟨i, z⟩) with q | q
                        · exact nD5' q
                        · rw [hD4] at q; cases q
                      obtain ⟨F6, E6, s6⟩ := E5.wipe (tgS t)
                      rw [hw3] at E6
                      have nD6 : ∀ i, ¬ F6 i Dl := fun i z => by obtain ⟨j, z⟩ := s6 _ ⟨i, z⟩; exact nD5 j z
                      have n1 : NT H5 Dl := ⟨fun b xs q z => (by rw [z, hD5] at q; cases q), fun b fs q z => (by rw [z, hD5] at q; cases q)⟩
                      have n2 : ∀ b o u, H5 b = some (.frz o u) → b ≠ Dl := fun b o u q z => by rw [z, hD5] at q; cases q
                      have f6 : Frm (fun b => PF.Un F5 b ∨ b = Dl) (fun b => PF.Un F5 b ∨ b = Dl) H5 (upd H5 Dl (.lst (vs ++ [u]))) := Frm.upd1 (.inr rfl) (by rw [hD5]; exact fun z => nomatch z) n1 n2
                      have f5' : Frm (PF.Un F1) (fun b => PF.Un F5 b ∨ b = Dl) H1 H5 := by
                        have w : Frm (fun b => PF.Un F4 b ∨ b = Dl) (fun b => PF.Un F5 b ∨ b = Dl) H4 H5 :=
                          ⟨fun b o n q => f5.keep b o (fun z => n (.inl z)) q, f5.ext, f5.dom, fun b z => z.elim (fun z => (f5.sub b (.inl z)).imp .inl id) fun z => .inl (.inr z)⟩
                        exact f4'.trans w
                      have hlen : vs.length < sizeLine := by
                        rw [rs4.length]
                        exact Nat.lt_of_lt_of_le hac (big_line (Nat.le_refl _))
                      refine ⟨vs, hD5, hlen, _, by omega, rfl, hlt, F6, _, acc ++ [d'], vs ++ [u], E6.keep (fun b o hb q => ?_) f6.ext f6.dom, upd_same, ?_, nD6, (f5'.trans f6).less fun b z => z.imp (s6 b) id, el⟩
                      · have hne : b ≠ Dl := fun z => by obtain ⟨j, hb⟩ := hb; exact nD6 j (by rw [← z]; exact hb)
                        rw [upd_ne hne]; exact q
                      · exact ((rs4.mono f5.ext).mono f6.ext).app ⟨u, [], rfl, RI.mono f6.ext R5, rfl⟩
                    · cases el
        · have e0 : i = l.length := by omega
          subst e0
          rw [List.drop_length] at el
          have el' : Out.ok acc ρ' = .ok accF ρF := el
          cases el'
          refine .inl ⟨(Y H' f'.ext _).2.1 (Nat.le_refl _), ?_⟩
          obtain ⟨F2, σ2, E2, s2, l2, o2⟩ := EnvR.rest E1 f'.ext (tgS t) him (σ' := L2.wipe σ (tgS t)) (wipe_length _ _) (fun j hj => by rw [wipe_get, if_neg hj]) E'
          have e2 : σ2 = σ := List.ext_getElem? o2
          subst e2
          refine h (.ref Dl) H' F2 (fun a => a = Dl) E2 ⟨⟨Dl, vs, rfl, rfl, hDl, rs⟩, fun a z => by rw [z, hDl]; exact fun z => nomatch z⟩ (fun i a z e => ?_) (f'.less fun b z => z.imp (s2 b) id)
          obtain ⟨j, q⟩ := s2 a ⟨i, z⟩
          rw [e] at q
          exact nD' j q
    · exact h.elim
/-- the context of a comprehension's block -/
theorem takes0N {X : Cx} : L2N.Takes X (fun _ _ _ _ => False) := fun _ _ x => by
  obtain ⟨_, _, _, _, _, _, _, _, _, _, _, _, _, _, _, _, z⟩ := x
  exact z.elim
theorem Ctx.blk {k : Nat} (C : Ctx X W k) (s : Shared) (H : Hp) (scope : Scope) (cenv : PySem.Env) (fp : List Addr) : Ctx (X.blk s H scope cenv fp) (fun _ _ _ _ => False) k := ⟨takes0N, PassesOwn.never, C.calm, C.nd, C.room⟩
def PTsd (X : Cx) (W : WX) (ifs : List Expr) (se : ST) : Prop := ∃ te, PTs X ifs te ∧ SdT X.K X.mg W te se
theorem ptsd_nil : PTsd X W [] stYes := ⟨_, pts_nil, fun P σ H F ρ Q E h => PostO.doneB E h⟩
theorem ptsd_one {c : Expr} {s : ST} (h : PTd X W c s) : PTsd X W [c] s := by
  obtain ⟨te, h1, h2⟩ := h
  exact ⟨_, pts_one h1, h2⟩
/-- the same readings in every block -/
def TEof (K : PySem.W.Frag) (mg : Str → Option Value) (W : WX) (se : SE) : TE := fun σ H Q => ∃ P F ρ, EnvR K P H F ρ σ ∧ PostO K mg P W σ (VlR K σ) Q F H (se ρ)
def TTof (K : PySem.W.Frag) (mg : Str → Option Value) (W : WX) (se : ST) : TT := fun σ H Q => ∃ P F ρ, EnvR K P H F ρ σ ∧ PostO K mg P W σ (fun _ _ a b => a = b) Q F H (se ρ)
def TGof (K : PySem.W.Frag) (t : Tg) : TG := fun v σ H Q => ∃ P F ρ d ρ', EnvR K P H F ρ σ ∧ RI K H d v ∧ setT t d ρ = some ρ' ∧ ∀ σ' F', EnvR K P H F' ρ' σ' → (∀ a, PF.Un F' a → PF.Un F a) → Only (tgS t) σ σ' → Q σ' H
theorem PEd.canon {e : Expr} {se : SE} (h : PEd X W e se) : PE X e (TEof X.K X.mg W se) := by
  obtain ⟨te, h1, h2⟩ := h
  exact ⟨fun pins s σ H Q I ⟨P, F, ρ, E, q⟩ => h1.run pins s σ H Q I (h2 P σ H F ρ Q E q)⟩
theorem PTsd.canon {e : List Expr} {se : ST} (h : PTsd X W e se) : PTs X e (TTof X.K X.mg W se) := by
  obtain ⟨te, h1, h2⟩ := h
  exact ⟨fun pins s σ H Q I ⟨P, F, ρ, E, q⟩ => h1.run pins s σ H Q I (h2 P σ H F ρ Q E q)⟩
theorem PGd.canon {e : Expr} {t : Tg} (h : PGd X e t) : PG X e (TGof X.K t) := by
  obtain ⟨te, h1, h2⟩ := h
  exact ⟨fun pins s σ H v u Q I r ⟨P, F, ρ, d, ρ', E, rd, es, q⟩ => h1.run pins s σ H v u Q I r (h2 P σ H F ρ d v ρ' Q E rd es q)⟩
theorem sd_canonE {se : SE} : SdE K mg W (TEof K mg W se) se := fun P σ H F ρ Q E h => ⟨P, F, ρ, E, h⟩
theorem sd_canonT {se : ST} : SdT K mg W (TTof K mg W se) se := fun P σ H F ρ Q E h => ⟨P, F, ρ, E, h⟩
theorem sd_canonG {t : Tg} : SdG K (TGof K t) t := fun P σ H F ρ d v ρ' Q E r es q => ⟨P, F, ρ, d, ρ', E, r, es, q⟩
theorem pd_lc {k : Nat} {elt tg iter : Expr} {ifs : List Expr} {scope : Scope} {pos : Pos} {si : SI} {t : Tg} {c : ST} {e : SE} (C : Ctx X W k) (own : List (Str × Nat)) (hown : own.map (·.2) = tgS t) (hi : PId X W tg iter si) (ok : BlkOk X.N X.env.scope scope own)
    (h : ∀ (s : Shared) (H : Hp) (D : Addr) (cl : List (Str × Addr)) (fp : List Addr), Ctx (X.blk s H scope (compEnvC scope cl D X.env) fp) (fun _ _ _ _ => False) k →
      PGd (X.blk s H scope (compEnvC scope cl D X.env) fp) tg t ∧ PTsd (X.blk s H scope (compEnvC scope cl D X.env) fp) (fun _ _ _ _ => False) ifs c ∧ PEd (X.blk s H scope (compEnvC scope cl D X.env) fp) (fun _ _ _ _ => False) elt e)
    (hs : ∀ x, foldedSetIterable iter X.env x = pure x := by intro _; rfl) : PEd X W (.ListComp elt [⟨tg, iter, ifs, 0⟩] scope pos) (eLc si t c e) := by
  obtain ⟨wi, i1, i2⟩ := hi
  have r := pe_lc (g := TGof X.K t) (tt := TTof X.K X.mg (fun _ _ _ _ => False) c) (te := TEof X.K X.mg (fun _ _ _ _ => False) e) (pos := pos) C.calm C.nd i1 ok (fun s H D cl fp => (h s H D cl fp (C.blk s H scope _ fp)).1.canon) (fun s H D cl fp => (h s H D cl fp (C.blk s H scope _ fp)).2.1.canon) (fun s H D cl fp => (h s H D cl fp (C.blk s H scope _ fp)).2.2.canon) hs
  rw [hown] at r
  exact ⟨_, r, sd_lc i2 sd_canonG sd_canonT sd_canonE⟩
theorem psd_setLc {k : Nat} (i : Nat) {y : Str} {py : Pos} {elt tg iter : Expr} {ifs : List Expr} {scope : Scope} {pos spos : Pos} {si : SI} {t : Tg} {c : ST} {e : SE} (C : Ctx X W k) (own : List (Str × Nat)) (hown : own.map (·.2) = tgS t) (hi : PId X W tg iter si) (ok : BlkOk X.N X.env.scope scope own)
    (h : ∀ (s : Shared) (H : Hp) (D : Addr) (cl : List (Str × Addr)) (fp : List Addr), Ctx (X.blk s H scope (compEnvC scope cl D X.env) fp) (fun _ _ _ _ => False) k →
      PGd (X.blk s H scope (compEnvC scope cl D X.env) fp) tg t ∧ PTsd (X.blk s H scope (compEnvC scope cl D X.env) fp) (fun _ _ _ _ => False) ifs c ∧ PEd (X.blk s H scope (compEnvC scope cl D X.env) fp) (fun _ _ _ _ => False) elt e)
    (hsw : swapsWith (.ListComp elt [⟨tg, iter, ifs, 0⟩] scope pos) (some (.Name y py)) spos.line X.env = pure true) (hy : X.N[i]? = some y := by rfl) (hyl : X.env.scope.names.lookup y = some .local := by rfl) (hs : ∀ x, foldedSetIterable iter X.env x = pure x := by intro _; rfl) :
    PSd X W (.Assign [.Name y py] (.ListComp elt [⟨tg, iter, ifs, 0⟩] scope pos) spos) (sSet i (eLc si t c e)) := by
  obtain ⟨wi, i1, i2⟩ := hi
  have r := ps_setLc (g := TGof X.K t) (tt := TTof X.K X.mg (fun _ _ _ _ => False) c) (te := TEof X.K X.mg (fun _ _ _ _ => False) e) (i := i) (pos := pos) (spos := spos) C.calm C.nd hy hyl hsw i1 ok (fun s H D cl fp => (h s H D cl fp (C.blk s H scope _ fp)).1.canon) (fun s H D cl fp => (h s H D cl fp (C.blk s H scope _ fp)).2.1.canon) (fun s H D cl fp => (h s H D cl fp (C.blk s H scope _ fp)).2.2.canon) hs
  rw [hown] at r
  exact ⟨_, r, sd_set i (sd_lc i2 sd_canonG sd_canonT sd_canonE)⟩
end
end PF

/-! what operators, built-ins and methods make of what is read -/
namespace PF
open PySem PySem.Spec PyProof.Rows
open L2
section
variable {X : Cx} {W : WX} {K : PySem.W.Frag} {mg : Str → Option Value}
/-! ### numbers -/
def mulD : D → D → Option Vl
  | .int i, .int j => if (decide (-(2 ^ 64) < i) && decide (i < 2 ^ 64)) || (decide (-(2 ^ 64) < j) && decide (j < 2 ^ 64)) then some (.imm (.int (i * j))) else none
  | _, _ => none
theorem op_mulD : ∃ r, OpR X (binaryOp .Mult) r ∧ OpD X.K r mulD := by
  refine ⟨_, op_mul, fun H x y u w v Q rx ry e q => ?_⟩
  unfold mulD at e
  split at e
  · split at e
    · rename_i h
      rw [Bool.or_eq_true, Bool.and_eq_true, Bool.and_eq_true, decide_eq_true_eq, decide_eq_true_eq, decide_eq_true_eq, decide_eq_true_eq] at h
      cases e; cases rx; cases ry
      exact ⟨_, _, rfl, rfl, h, q.imm rfl⟩
    · cases e
  · cases e
def modD : D → D → Option Vl
  | .int i, .int j => if 0 < j then some (.imm (.int (i % j))) else none
  | _, _ => none
theorem op_modD : ∃ r, OpR X (binaryOp .Mod) r ∧ OpD X.K r modD := by
  refine ⟨_, op_mod, fun H x y u w v Q rx ry e q => ?_⟩
  unfold modD at e
  split at e
  · split at e
    · rename_i h
      cases e; cases rx; cases ry
      exact ⟨_, _, rfl, rfl, h, q.imm rfl⟩
    · cases e
  · cases e
def fdivD : D → D → Option Vl
  | .int i, .int j => if decide (0 < j) && decide (j < 2 ^ 8000) then some (.imm (.int (i / j))) else none
  | _, _ => none
theorem op_fdivD : ∃ r, OpR X (binaryOp .FloorDiv) r ∧ OpD X.K r fdivD := by
  refine ⟨_, op_fdivW, fun H x y u w v Q rx ry e q => ?_⟩
  unfold fdivD at e
  split at e
  · rename_i i j
    split at e
    · rename_i h
      rw [Bool.and_eq_true, decide_eq_true_eq, decide_eq_true_eq] at h
      cases e; cases rx; cases ry
      refine ⟨_, _, rfl, rfl, wide_div (b := 8000) h.1 ?_ (by decide) (by decide), q.imm rfl⟩
      have h2 : (j.natAbs : Int) < ((2 ^ 8000 : Nat) : Int) := by
        rw [Int.natAbs_of_nonneg (Int.le_of_lt h.1)]
        have : ((2 ^ 8000 : Nat) : Int) = 2 ^ 8000 := by norm_cast
        rw [this]; exact h.2
      exact Int.ofNat_lt.mp h2
    · cases e
  · cases e
def powD : D → D → Option Vl
  | .int i, .int j => if decide (0 ≤ j) && (decide (j ≤ 1000000) && decide (i.natAbs < 2 ^ 64)) then some (.imm (.int (i ^ j.toNat))) else none
  | _, _ => none
theorem op_powD : ∃ r, OpR X (binaryOp .Pow) r ∧ OpD X.K r powD := by
  refine ⟨_, op_pow, fun H x y u w v Q rx ry e q => ?_⟩
  unfold powD at e
  split at e
  · split at e
    · rename_i h
      rw [Bool.and_eq_true, Bool.and_eq_true, decide_eq_true_eq, decide_eq_true_eq, decide_eq_true_eq] at h
      cases e; cases rx; cases ry
      exact ⟨_, _, rfl, rfl, h, q.imm rfl⟩
    · cases e
  · cases e
/-! ### comparisons -/
def ltD : D → D → Option Vl
  | .int i, .int j => some (.imm (.bl (decide (i < j))))
  | .str s, .str t => some (.imm (.bl (decide (s < t))))
  | _, _ => none
def gtD : D → D → Option Vl
  | .int i, .int j => some (.imm (.bl (decide (j < i))))
  | .str s, .str t => some (.imm (.bl (decide (t < s))))
  | _, _ => none
def leD : D → D → Option Vl
  | .int i, .int j => some (.imm (.bl (decide (i ≤ j))))
  | _, _ => none
def geD : D → D → Option Vl
  | .int i, .int j => some (.imm (.bl (decide (j ≤ i))))
  | _, _ => none
theorem mkS_list (s : List Nat) : (mkS s).cps.toList = s := by simp [mkS]
theorem op_gtD : ∃ r, OpR X (compareOp .Gt) r ∧ OpD X.K r gtD := by
  refine ⟨_, PF.OpR.or op_gt op_gt_str, fun H x y u w v Q rx ry e q => ?_⟩
  unfold gtD at e
  split at e
  · cases e; cases rx; cases ry
    exact .inl ⟨_, _, rfl, rfl, q.imm rfl⟩
  · cases e; cases rx; cases ry
    refine .inr ⟨_, _, rfl, rfl, ?_⟩
    rw [mkS_list, mkS_list]
    exact q.imm rfl
  · cases e
theorem op_geD : ∃ r, OpR X (compareOp .GtE) r ∧ OpD X.K r geD := by
  refine ⟨_, op_ge, fun H x y u w v Q rx ry e q => ?_⟩
  unfold geD at e
  split at e
  · cases e; cases rx; cases ry
    exact ⟨_, _, rfl, rfl, q.imm rfl⟩
  · cases e
end

/-! ### == -/
mutual
def eqP : D → D → Bool
  | .non, .non => true
  | .bl a, .bl b => a == b
  | .bl a, .int j => (if a then 1 else 0) == j
  | .int i, .bl b => i == (if b then 1 else 0)
  | .int i, .int j => i == j
  | .str x, .str y => x == y
  | .lst xs, .lst ys => eqPs xs ys
  | .tup xs, .tup ys => eqPs xs ys
  | _, _ => false
def eqPs : List D → List D → Bool
  | [], [] => true
  | x :: xs, y :: ys => eqP x y && eqPs xs ys
  | _, _ => false
end
mutual
/-- plain data, no more than so deep -/
def okP : Nat → D → Bool
  | n, .non => true
  | n, .bl _ => true
  | n, .int _ => true
  | n, .str _ => true
  | n, .lst l => match n with
    | 0 => false
    | m + 1 => okPs m l
  | n, .tup l => match n with
    | 0 => false
    | m + 1 => okPs m l
  | _, _ => false
def okPs : Nat → List D → Bool
  | _, [] => true
  | n, d :: l => okP n d && okPs n l
end
mutual
theorem eqP_refl : ∀ {n : Nat} (d : D), okP n d = true → eqP d d = true
  | _, .non, _ => rfl
  | _, .bl b, _ => by simp [eqP]
  | _, .int i, _ => by simp [eqP]
  | _, .str x, _ => by simp [eqP]
  | n, .lst l, h => by
    cases n with
    | zero => simp [okP] at h
    | succ n => rw [eqP]; exact eqPs_refl l (by simpa [okP] using h)
  | n, .tup l, h => by
    cases n with
    | zero => simp [okP] at h
    | succ n => rw [eqP]; exact eqPs_refl l (by simpa [okP] using h)
  | n, .dct _, h => by simp [okP] at h
  | n, .dcT _, h => by simp [okP] at h
  | n, .deal _ _ _, h => by simp [okP] at h
  | n, .obj _ _, h => by simp [okP] at h
theorem eqPs_refl : ∀ {n : Nat} (l : List D), okPs n l = true → eqPs l l = true
  | _, [], _ => rfl
  | n, d :: l, h => by
    have h' : okP n d = true ∧ okPs n l = true := by simpa [okPs] using h
    rw [eqPs, eqP_refl d h'.1, eqPs_refl l h'.2]; rfl
end
abbrev pairP (l m : List D) (j : Nat) : Bool := eqP (l.getD j .non) (m.getD j .non)
theorem eqPs_eq : ∀ l m : List D, ((List.range (min l.length m.length)).all (pairP l m) && l.length == m.length) = eqPs l m
  | [], [] => rfl
  | [], _ :: _ => by simp [eqPs]
  | _ :: _, [] => by simp [eqPs]
  | x :: xs, y :: ys => by
    have ih := eqPs_eq xs ys
    have e1 : min (x :: xs).length (y :: ys).length = min xs.length ys.length + 1 := by rw [List.length_cons, List.length_cons]; omega
    have e2 : ((x :: xs).length == (y :: ys).length) = (xs.length == ys.length) := by simp
    have e3 : (List.range (min xs.length ys.length + 1)).all (pairP (x :: xs) (y :: ys)) = (eqP x y && (List.range (min xs.length ys.length)).all (pairP xs ys)) := by
      rw [List.range_succ_eq_map, List.all_cons, List.all_map]
      first | rfl | simp [pairP, Function.comp_def]
    rw [e1, e2, e3, eqPs, ← ih, Bool.and_assoc]
section
variable {X : Cx} {pins : List (Addr × Obj)} {σ : L2.St} {H : Hp} {s : Shared}
theorem uniq_l {n : Nat} (ih : ∀ (d e : D) (v : V), okP n d = true → okP n e = true → RI X.K H d v → RI X.K H e v → d = e) : ∀ (l k : List D) (vs : List V), okPs n l = true → okPs n k = true → RIs X.K H l vs → RIs X.K H k vs → l = k := by
  intro l
  induction l with
  | nil =>
    intro k vs _ _ h1 h2
    cases h1
    cases k with
    | nil => rfl
    | cons d k => obtain ⟨_, _, q, _⟩ := h2; cases q
  | cons d l il =>
    intro k vs hd he h1 h2
    obtain ⟨v, r, e1, q1, r1⟩ := h1
    subst e1
    cases k with
    | nil => cases h2
    | cons e k =>
      obtain ⟨w, r2, e2, q2, r2'⟩ := h2
      cases e2
      have hd' : okP n d = true ∧ okPs n l = true := by simpa [okPs] using hd
      have he' : okP n e = true ∧ okPs n k = true := by simpa [okPs] using he
      rw [ih d e v hd'.1 he'.1 q1 q2, il k r hd'.2 he'.2 r1 r2']
/-- the kinds of plain data -/
inductive PK (n : Nat) (K : PySem.W.Frag) (H : Hp) : D → V → Prop
  | non : PK n K H .non .non
  | bl (b : Bool) : PK n K H (.bl b) (.bl b)
  | int (i : Int) : PK n K H (.int i) (.int i)
  | str (x : List Nat) : PK n K H (.str x) (.str (mkS x))
  | lst (m : Nat) (a : Addr) (l : List D) (vs : List V) (e : n = m + 1) (o : okPs m l = true) (h : SqL K H a vs) (r : RIs K H l vs) : PK n K H (.lst l) (.ref a)
  | tup (m : Nat) (a : Addr) (l : List D) (vs : List V) (e : n = m + 1) (o : okPs m l = true) (h : SqT K H a vs) (r : RIs K H l vs) : PK n K H (.tup l) (.ref a)
theorem pk_of {n : Nat} {K : PySem.W.Frag} {d : D} {v : V} (h : okP n d = true) (r : RdR K H d v) : PK n K H d v := by
  cases d with
  | non => cases r; exact .non
  | bl b => cases r; exact .bl b
  | int i => cases r; exact .int i
  | str x => cases r; exact .str x
  | lst l =>
    obtain ⟨a, vs, e, q, rs⟩ := r
    subst e
    cases n with
    | zero => simp [okP] at h
    | succ n => exact .lst n a l vs rfl (by simpa [okP] using h) q rs
  | tup l =>
    obtain ⟨a, vs, e, q, rs⟩ := r
    subst e
    cases n with
    | zero => simp [okP] at h
    | succ n => exact .tup n a l vs rfl (by simpa [okP] using h) (SqT.of q) rs
  | dct l => simp [okP] at h
  | dcT l => simp [okP] at h
  | deal _ _ _ => simp [okP] at h
  | obj _ _ => simp [okP] at h
theorem not_both (I : Inv X pins σ H s) {a : Addr} {xs ys : List V} (h1 : SqL X.K H a xs) (h2 : SqT X.K H a ys) : False := by
  obtain ⟨_, _, ⟨o, _, g1, g2, _, _⟩, _⟩ := I.list h1
  obtain ⟨_, _, ⟨o2, g3, g4, _⟩, _⟩ := I.tuple h2
  rw [g1] at g3; cases g3
  rw [g2] at g4; simp at g4
theorem rd_uniq (I : Inv X pins σ H s) : ∀ (n : Nat) (d e : D) (v : V), okP n d = true → okP n e = true → RdR X.K H d v → RdR X.K H e v → d = e := by
  intro n
  induction n with
  | zero =>
    intro d e v hd he h1 h2
    have p1 := pk_of hd h1
    have p2 := pk_of he h2
    cases p1 with
    | str x => generalize ex : V.str (mkS x) = y at p2; cases p2 with
      | str z => injection ex with e1; rw [mkS_inj e1]
      | _ => cases ex
    | lst _ _ _ _ e => cases e
    | tup _ _ _ _ e => cases e
    | _ => cases p2 <;> rfl
  | succ n ih =>
    intro d e v hd he h1 h2
    have p1 := pk_of hd h1
    have p2 := pk_of he h2
    cases p1 with
    | str x => generalize ex : V.str (mkS x) = y at p2; cases p2 with
      | str z => injection ex with e1; rw [mkS_inj e1]
      | _ => cases ex
    | lst m a l vs e1 o q r =>
      cases e1
      cases p2 with
      | lst m2 _ l2 vs2 e2 o2 q2 r2 =>
        cases e2
        have ev := I.list_inj q q2
        subst ev
        rw [uniq_l (fun d e v a b c f => ih d e v a b c.rd f.rd) l l2 vs o o2 r r2]
      | tup m2 _ l2 vs2 e2 o2 q2 r2 => exact (not_both I q q2).elim
    | tup m a l vs e1 o q r =>
      cases e1
      cases p2 with
      | tup m2 _ l2 vs2 e2 o2 q2 r2 =>
        cases e2
        have ev := I.tuple_inj q q2
        subst ev
        rw [uniq_l (fun d e v a b c f => ih d e v a b c.rd f.rd) l l2 vs o o2 r r2]
      | lst m2 _ l2 vs2 e2 o2 q2 r2 => exact (not_both I q2 q).elim
    | _ => cases p2 <;> rfl
theorem okPs_get {n : Nat} : ∀ {l : List D} {j : Nat} {d : D}, okPs n l = true → l[j]? = some d → okP n d = true
  | [], _, _, _, h => by simp at h
  | e :: l, 0, d, h, q => by
    have h' : okP n e = true ∧ okPs n l = true := by simpa [okPs] using h
    simp at q; subst q; exact h'.1
  | e :: l, j + 1, d, h, q => by
    have h' : okP n e = true ∧ okPs n l = true := by simpa [okPs] using h
    exact okPs_get (l := l) (j := j) h'.2 (by simpa using q)
theorem mkS_beq (a b : List Nat) : (mkS a == mkS b) = (a == b) := by
  rw [Bool.eq_iff_iff, beq_iff_eq, beq_iff_eq]
  exact ⟨mkS_inj, fun h => by rw [h]⟩
theorem items_at {n : Nat} {A : Around} {l m : List D} {vs ws : List V} {its its2 : List Value} (rl : RIs X.K H l vs) (rm : RIs X.K H m ws) (r1 : Vals vs its) (r2 : Vals ws its2) (ol : okPs n l = true) (om : okPs n m = true)
    (ih : ∀ d e v u x y, okP n d = true → okP n e = true → RdR X.K H d v → RdR X.K H e u → RelV v x → RelV u y → SeqAt.EqAt A s x y (eqP d e)) :
    ∀ j (h1 : j < its.toArray.size) (h2 : j < its2.toArray.size), SeqAt.EqAt A s its.toArray[j] its2.toArray[j] (pairP l m j) := by
  intro j h1 h2
  have h1' : j < its.length := by simpa using h1
  have h2' : j < its2.length := by simpa using h2
  have a1 : j < l.length := by rw [← rl.length, r1.length]; exact h1'
  have a2 : j < m.length := by rw [← rm.length, r2.length]; exact h2'
  obtain ⟨v, e1, q1⟩ := rl.get (List.getElem?_eq_getElem a1)
  obtain ⟨u, e2, q2⟩ := rm.get (List.getElem?_eq_getElem a2)
  obtain ⟨x, e3, q3⟩ := r1.get e1
  obtain ⟨y, e4, q4⟩ := r2.get e2
  have f1 : its.toArray[j] = x := by
    have : its[j]? = some its[j] := List.getElem?_eq_getElem h1'
    rw [e3] at this; cases this; rfl
  have f2 : its2.toArray[j] = y := by
    have : its2[j]? = some its2[j] := List.getElem?_eq_getElem h2'
    rw [e4] at this; cases this; rfl
  have g1 : l.getD j .non = l[j] := by simp [a1]
  have g2 : m.getD j .non = m[j] := by simp [a2]
  rw [f1, f2]
  show SeqAt.EqAt A s x y (eqP (l.getD j .non) (m.getD j .non))
  rw [g1, g2]
  exact ih _ _ v u x y (okPs_get ol (List.getElem?_eq_getElem a1)) (okPs_get om (List.getElem?_eq_getElem a2)) q1.rd q2.rd q3 q4
theorem eqPs_other {l m : List D} (h : l.length ≠ m.length) : eqPs l m = false := by
  rw [← eqPs_eq]
  simp [h]
theorem eqPs_same {l m : List D} (h : l.length = m.length) : (List.range l.length).all (pairP l m) = eqPs l m := by
  have e := eqPs_eq l m
  rw [← h, Nat.min_self] at e
  simpa using e
theorem rc_cases {n : Nat} (A : Around) (hu : A.units < cLine) (I : Inv X pins σ H s) {d e : D} {v u : V} {x y : Value} (p : PK n X.K H d v) (q : PK n X.K H e u) (r : RelV v x) (t : RelV u y)
    (ih : ∀ m, n = m + 1 → ∀ d e v u x y, okP m d = true → okP m e = true → RdR X.K H d v → RdR X.K H e u → RelV v x → RelV u y → SeqAt.EqAt A.in1 s x y (eqP d e)) : SeqAt.RcAt A s x y (eqP d e) ∧ SeqAt.RcNeAt A s x y (!eqP d e) := by
  cases p with
  | non =>
    cases r
    cases q with
    | non => cases t; exact ⟨.none_none, .none_none⟩
    | bl b => cases t; exact ⟨.none_bool b, .none_bool b⟩
    | int i => obtain ⟨tk, rfl⟩ := t; exact ⟨.none_int i tk, .none_int i tk⟩
    | str z => obtain ⟨tk, rfl⟩ := t; exact ⟨.none_str _ tk, .none_str _ tk⟩
    | lst m a l vs e1 o h rs => cases t; obtain ⟨its, rv, pl, _⟩ := I.list h; exact ⟨.none_list pl.isList hu, .none_list pl.isList hu⟩
    | tup m a l vs e1 o h rs => cases t; obtain ⟨its, rv, pl, _⟩ := I.tuple h; exact ⟨.none_tuple pl hu, .none_tuple pl hu⟩
  | bl b =>
    cases r
    cases q with
    | non => cases t; exact ⟨.bool_none b, .bool_none b⟩
    | bl c => cases t; exact ⟨.bool_bool b c, .bool_bool b c⟩
    | int i => obtain ⟨tk, rfl⟩ := t; exact ⟨.bool_int b i tk, .bool_int b i tk⟩
    | str z => obtain ⟨tk, rfl⟩ := t; exact ⟨.bool_str b _ tk, .bool_str b _ tk⟩
    | lst m a l vs e1 o h rs => cases t; obtain ⟨its, rv, pl, _⟩ := I.list h; exact ⟨.bool_list b pl.isList hu, .bool_list b pl.isList hu⟩
    | tup m a l vs e1 o h rs => cases t; obtain ⟨its, rv, pl, _⟩ := I.tuple h; exact ⟨.bool_tuple b pl hu, .bool_tuple b pl hu⟩
  | int i =>
    obtain ⟨tk, rfl⟩ := r
    cases q with
    | non => cases t; exact ⟨.int_none i tk, .int_none i tk⟩
    | bl c => cases t; exact ⟨.int_bool i tk c, .int_bool i tk c⟩
    | int j => obtain ⟨tl, rfl⟩ := t; exact ⟨.int_int i tk j tl, .int_int i tk j tl⟩
    | str z => obtain ⟨tl, rfl⟩ := t; exact ⟨.int_str i tk _ tl, .int_str i tk _ tl⟩
    | lst m a l vs e1 o h rs => cases t; obtain ⟨its, rv, pl, _⟩ := I.list h; exact ⟨.int_list i tk pl.isList hu, .int_list i tk pl.isList hu⟩
    | tup m a l vs e1 o h rs => cases t; obtain ⟨its, rv, pl, _⟩ := I.tuple h; exact ⟨.int_tuple i tk pl hu, .int_tuple i tk pl hu⟩
  | str z =>
    obtain ⟨tk, rfl⟩ := r
    cases q with
    | non => cases t; exact ⟨.str_none _ tk, .str_none _ tk⟩
    | bl c => cases t; exact ⟨.str_bool _ tk c, .str_bool _ tk c⟩
    | int j => obtain ⟨tl, rfl⟩ := t; exact ⟨.str_int _ tk j tl, .str_int _ tk j tl⟩
    | str z2 => obtain ⟨tl, rfl⟩ := t; rw [show eqP (.str z) (.str z2) = (mkS z == mkS z2) by rw [mkS_beq]; rfl]; exact ⟨.str_str _ tk _ tl, .str_str _ tk _ tl⟩
    | lst m a l vs e1 o h rs => cases t; obtain ⟨its, rv, pl, _⟩ := I.list h; exact ⟨.str_list _ tk pl.isList hu, .str_list _ tk pl.isList hu⟩
    | tup m a l vs e1 o h rs => cases t; obtain ⟨its, rv, pl, _⟩ := I.tuple h; exact ⟨.str_tuple _ tk pl hu, .str_tuple _ tk pl hu⟩
  | lst m a l vs e1 o h rs =>
    cases r
    obtain ⟨its, rv, pl, _⟩ := I.list h
    cases q with
    | non => cases t; exact ⟨.list_none pl.isList hu, .list_none pl.isList hu⟩
    | bl c => cases t; exact ⟨.list_bool c pl.isList hu, .list_bool c pl.isList hu⟩
    | int j => obtain ⟨tl, rfl⟩ := t; exact ⟨.list_int j tl pl.isList hu, .list_int j tl pl.isList hu⟩
    | str z2 => obtain ⟨tl, rfl⟩ := t; exact ⟨.list_str _ tl pl.isList hu, .list_str _ tl pl.isList hu⟩
    | lst m2 a2 l2 vs2 e2 o2 h2 rs2 =>
      cases t
      obtain ⟨its2, rv2, pl2, _⟩ := I.list h2
      rw [e1] at e2
      cases e2
      have s1 : its.toArray.size = l.length := by rw [List.size_toArray, ← rv.length, rs.length]
      have s2 : its2.toArray.size = l2.length := by rw [List.size_toArray, ← rv2.length, rs2.length]
      show SeqAt.RcAt A s _ _ (eqPs l l2) ∧ SeqAt.RcNeAt A s _ _ (!eqPs l l2)
      by_cases hl : l.length = l2.length
      · have it := items_at (A := A.in1) rs rs2 rv rv2 o o2 (ih m e1)
        have e3 : (List.range its.toArray.size).all (pairP l l2) = eqPs l l2 := by rw [s1]; exact eqPs_same hl
        rw [← e3]
        exact ⟨.lists pl.isList pl2.isList (by rw [s1, s2, hl]) hu it, .lists pl.isList pl2.isList (by rw [s1, s2, hl]) hu it⟩
      · rw [eqPs_other hl]
        have hb : (its.toArray.size != its2.toArray.size) = true := by rw [s1, s2]; exact bne_iff_ne.mpr hl
        exact ⟨.lists_lengths pl.isList pl2.isList hb hu, .lists_lengths pl.isList pl2.isList hb hu⟩
    | tup m2 a2 l2 vs2 e2 o2 h2 rs2 =>
      cases t
      obtain ⟨its2, rv2, pl2, _⟩ := I.tuple h2
      exact ⟨.list_tuple pl.isList pl2 hu, .list_tuple pl.isList pl2 hu⟩
  | tup m a l vs e1 o h rs =>
    cases r
    obtain ⟨its, rv, pl, _⟩ := I.tuple h
    cases q with
    | non => cases t; exact ⟨.tuple_none pl hu, .tuple_none pl hu⟩
    | bl c => cases t; exact ⟨.tuple_bool c pl hu, .tuple_bool c pl hu⟩
    | int j => obtain ⟨tl, rfl⟩ := t; exact ⟨.tuple_int j tl pl hu, .tuple_int j tl pl hu⟩
    | str z2 => obtain ⟨tl, rfl⟩ := t; exact ⟨.tuple_str _ tl pl hu, .tuple_str _ tl pl hu⟩
    | tup m2 a2 l2 vs2 e2 o2 h2 rs2 =>
      cases t
      obtain ⟨its2, rv2, pl2, _⟩ := I.tuple h2
      rw [e1] at e2
      cases e2
      have s1 : its.toArray.size = l.length := by rw [List.size_toArray, ← rv.length, rs.length]
      have s2 : its2.toArray.size = l2.length := by rw [List.size_toArray, ← rv2.length, rs2.length]
      show SeqAt.RcAt A s _ _ (eqPs l l2) ∧ SeqAt.RcNeAt A s _ _ (!eqPs l l2)
      have it := items_at (A := A.in1) rs rs2 rv rv2 o o2 (ih m e1)
      have e3 : ((List.range (min its.toArray.size its2.toArray.size)).all (pairP l l2) && its.toArray.size == its2.toArray.size) = eqPs l l2 := by rw [s1, s2]; exact eqPs_eq l l2
      rw [← e3]
      exact ⟨.tuples pl pl2 hu it, .tuples pl pl2 hu it⟩
    | lst m2 a2 l2 vs2 e2 o2 h2 rs2 =>
      cases t
      obtain ⟨its2, rv2, pl2, _⟩ := I.list h2
      exact ⟨.tuple_list pl pl2.isList hu, .tuple_list pl pl2.isList hu⟩
theorem eq_at (I : Inv X pins σ H s) : ∀ (n : Nat) (A : Around), A.units + n < cLine → ∀ (d e : D) (v u : V) (x y : Value), okP n d = true → okP n e = true → RdR X.K H d v → RdR X.K H e u → RelV v x → RelV u y → SeqAt.EqAt A s x y (eqP d e) := by
  intro n
  induction n with
  | zero =>
    intro A hu d e v u x y hd he rd re r t
    have hu' : A.units < cLine := by omega
    cases pk_of hd rd with
    | lst _ _ _ _ q => cases q
    | tup _ _ _ _ q => cases q
    | non =>
      cases r
      cases pk_of he re with
      | non => cases t; exact .same _
      | bl b => cases t; exact .none_bool b
      | int i => obtain ⟨tk, rfl⟩ := t; exact .none_int i tk
      | str z => obtain ⟨tk, rfl⟩ := t; exact .none_str _ tk
      | lst _ _ _ _ q => cases q
      | tup _ _ _ _ q => cases q
    | bl b =>
      cases r
      cases pk_of he re with
      | non => cases t; exact .bool_none b
      | bl c => cases t; exact .bool_bool b c
      | int i => obtain ⟨tk, rfl⟩ := t; exact .bool_int b i tk
      | str z => obtain ⟨tk, rfl⟩ := t; exact .bool_str b _ tk
      | lst _ _ _ _ q => cases q
      | tup _ _ _ _ q => cases q
    | int i =>
      obtain ⟨tk, rfl⟩ := r
      cases pk_of he re with
      | non => cases t; exact .int_none i tk
      | bl c => cases t; exact .int_bool i tk c
      | int j => obtain ⟨tl, rfl⟩ := t; exact .int_int i tk j tl
      | str z => obtain ⟨tl, rfl⟩ := t; exact .int_str i tk _ tl
      | lst _ _ _ _ q => cases q
      | tup _ _ _ _ q => cases q
    | str z =>
      obtain ⟨tk, rfl⟩ := r
      cases pk_of he re with
      | non => cases t; exact .str_none _ tk
      | bl c => cases t; exact .str_bool _ tk c
      | int j => obtain ⟨tl, rfl⟩ := t; exact .str_int _ tk j tl
      | str z2 => obtain ⟨tl, rfl⟩ := t; rw [show eqP (.str z) (.str z2) = (mkS z == mkS z2) by rw [mkS_beq]; rfl]; exact .str_str _ tk _ tl
      | lst _ _ _ _ q => cases q
      | tup _ _ _ _ q => cases q
  | succ n ih =>
    intro A hu d e v u x y hd he rd re r t
    have hu' : A.units < cLine := by omega
    have p := pk_of hd rd
    have q := pk_of he re
    have rc := rc_cases A hu' I p q r t fun m em d e v u x y a b c f g h => by
      cases em
      exact ih A.in1 (by show A.units + 1 + n < cLine; omega) d e v u x y a b c f g h
    have refs : ∀ {a b : Addr}, x = .ref a → y = .ref b → SeqAt.EqAt A s x y (eqP d e) := fun {a b} ex ey => by
      by_cases hab : a = b
      · have hv : v = u := by
          subst ex ey hab
          exact r.inj t
        subst hv
        have hde := rd_uniq I (n + 1) d e v hd he rd re
        subst hde
        rw [eqP_refl d hd, ex, ey, hab]
        exact .same _
      · subst ex ey
        exact SeqAt.EqAt.of_refs hab rc.1
    cases p with
    | non =>
      cases r
      cases q with
      | non => cases t; exact .same _
      | bl b => cases t; exact .none_bool b
      | int i => obtain ⟨tk, rfl⟩ := t; exact .none_int i tk
      | str z => obtain ⟨tk, rfl⟩ := t; exact .none_str _ tk
      | lst m a l vs e1 o h rs => cases t; obtain ⟨its, rv, pl, _⟩ := I.list h; exact .none_list pl.isList hu'
      | tup m a l vs e1 o h rs => cases t; obtain ⟨its, rv, pl, _⟩ := I.tuple h; exact .none_tuple pl hu'
    | bl b =>
      cases r
      cases q with
      | non => cases t; exact .bool_none b
      | bl c => cases t; exact .bool_bool b c
      | int i => obtain ⟨tk, rfl⟩ := t; exact .bool_int b i tk
      | str z => obtain ⟨tk, rfl⟩ := t; exact .bool_str b _ tk
      | lst m a l vs e1 o h rs => cases t; obtain ⟨its, rv, pl, _⟩ := I.list h; exact .bool_list b pl.isList hu'
      | tup m a l vs e1 o h rs => cases t; obtain ⟨its, rv, pl, _⟩ := I.tuple h; exact .bool_tuple b pl hu'
    | int i =>
      obtain ⟨tk, rfl⟩ := r
      cases q with
      | non => cases t; exact .int_none i tk
      | bl c => cases t; exact .int_bool i tk c
      | int j => obtain ⟨tl, rfl⟩ := t; exact .int_int i tk j tl
      | str z => obtain ⟨tl, rfl⟩ := t; exact .int_str i tk _ tl
      | lst m a l vs e1 o h rs => cases t; obtain ⟨its, rv, pl, _⟩ := I.list h; exact .int_list i tk pl.isList hu'
      | tup m a l vs e1 o h rs => cases t; obtain ⟨its, rv, pl, _⟩ := I.tuple h; exact .int_tuple i tk pl hu'
    | str z =>
      obtain ⟨tk, rfl⟩ := r
      cases q with
      | non => cases t; exact .str_none _ tk
      | bl c => cases t; exact .str_bool _ tk c
      | int j => obtain ⟨tl, rfl⟩ := t; exact .str_int _ tk j tl
      | str z2 => obtain ⟨tl, rfl⟩ := t; rw [show eqP (.str z) (.str z2) = (mkS z == mkS z2) by rw [mkS_beq]; rfl]; exact .str_str _ tk _ tl
      | lst m a l vs e1 o h rs => cases t; obtain ⟨its, rv, pl, _⟩ := I.list h; exact .str_list _ tk pl.isList hu'
      | tup m a l vs e1 o h rs => cases t; obtain ⟨its, rv, pl, _⟩ := I.tuple h; exact .str_tuple _ tk pl hu'
    | lst m a l vs e1 o h rs =>
      cases r
      obtain ⟨its, rv, pl, _⟩ := I.list h
      cases q with
      | non => cases t; exact .list_none pl.isList hu'
      | bl c => cases t; exact .list_bool c pl.isList hu'
      | int j => obtain ⟨tl, rfl⟩ := t; exact .list_int j tl pl.isList hu'
      | str z2 => obtain ⟨tl, rfl⟩ := t; exact .list_str _ tl pl.isList hu'
      | lst m2 a2 l2 vs2 e2 o2 h2 rs2 => cases t; exact refs rfl rfl
      | tup m2 a2 l2 vs2 e2 o2 h2 rs2 => cases t; exact refs rfl rfl
    | tup m a l vs e1 o h rs =>
      cases r
      obtain ⟨its, rv, pl, _⟩ := I.tuple h
      cases q with
      | non => cases t; exact .tuple_none pl hu'
      | bl c => cases t; exact .tuple_bool c pl hu'
      | int j => obtain ⟨tl, rfl⟩ := t; exact .tuple_int j tl pl hu'
      | str z2 => obtain ⟨tl, rfl⟩ := t; exact .tuple_str _ tl pl hu'
      | lst m2 a2 l2 vs2 e2 o2 h2 rs2 => cases t; exact refs rfl rfl
      | tup m2 a2 l2 vs2 e2 o2 h2 rs2 => cases t; exact refs rfl rfl
end
/-- a == b, a != b: plain data, no more than so deep -/
def eqD : D → D → Option Vl := fun x y => if okP 180 x && okP 180 y then some (.imm (.bl (eqP x y))) else none
def neD : D → D → Option Vl := fun x y => if okP 180 x && okP 180 y then some (.imm (.bl (!eqP x y))) else none
section
variable {X : Cx}
def rEqX (K : PySem.W.Frag) (neg : Bool) : R2 := fun x y H Q => ∃ d e, RdR K H d x ∧ RdR K H e y ∧ okP 180 d = true ∧ okP 180 e = true ∧ Q (.bl (if neg then !eqP d e else eqP d e)) H
theorem op_eqX (hu : X.A.units + 184 < cLine) : OpR X (compareOp .Eq) (rEqX X.K false) := by
  intro pins s σ H x y v u Q I rx ry h
  obtain ⟨d, e, r1, r2, o1, o2, q⟩ := h
  exact (rc_cases X.A (by omega) I (pk_of o1 r1) (pk_of o2 r2) rx ry fun m em d e v u x y a b c f g h => eq_at I m X.A.in1 (by show X.A.units + 1 + m < cLine; omega) d e v u x y a b c f g h).1 _ _ _ _ ⟨.bl _, H, I, rfl, q⟩
theorem op_neX (hu : X.A.units + 184 < cLine) : OpR X (compareOp .NotEq) (rEqX X.K true) := by
  intro pins s σ H x y v u Q I rx ry h
  obtain ⟨d, e, r1, r2, o1, o2, q⟩ := h
  exact (rc_cases X.A (by omega) I (pk_of o1 r1) (pk_of o2 r2) rx ry fun m em d e v u x y a b c f g h => eq_at I m X.A.in1 (by show X.A.units + 1 + m < cLine; omega) d e v u x y a b c f g h).2 _ _ _ _ ⟨.bl _, H, I, rfl, q⟩
theorem op_eqDD (hu : X.A.units + 184 < cLine) : ∃ r, OpR X (compareOp .Eq) r ∧ OpD X.K r eqD := by
  refine ⟨_, op_eqX hu, fun H x y u w v Q rx ry e q => ?_⟩
  unfold eqD at e
  split at e
  · rename_i h
    rw [Bool.and_eq_true] at h
    cases e
    exact ⟨x, y, rx, ry, h.1, h.2, q.imm rfl⟩
  · cases e
theorem op_neDD (hu : X.A.units + 184 < cLine) : ∃ r, OpR X (compareOp .NotEq) r ∧ OpD X.K r neD := by
  refine ⟨_, op_neX hu, fun H x y u w v Q rx ry e q => ?_⟩
  unfold neD at e
  split at e
  · rename_i h
    rw [Bool.and_eq_true] at h
    cases e
    exact ⟨x, y, rx, ry, h.1, h.2, q.imm rfl⟩
  · cases e
theorem Ctx.u64 {W : WX} {k : Nat} (C : Ctx X W k) : X.A.units + 184 < cLine := by have := C.room.un; omega
end
end PF

/-! places, lengths, membership, slices, texts -/
namespace PF
open PySem PySem.Spec PyProof.Rows
open L2
section
variable {X : Cx} {W : WX} {K : PySem.W.Frag} {mg : Str → Option Value}
/-! ### joined sequences -/
theorem op_catL : OpR X (binaryOp .Add) (fun x y H Q => ∃ a b xs ys, x = .ref a ∧ y = .ref b ∧ SqL X.K H a xs ∧ SqL X.K H b ys ∧ xs.length + ys.length ≤ sizeLine ∧ ∀ p, H p = none → Q (.ref p) (upd H p (.lst (xs ++ ys)))) := by
  intro pins s σ H x y v u Q I rx ry h
  obtain ⟨a, b, xs, ys, rfl, rfl, ha, hb, hz, q⟩ := h
  cases rx
  cases ry
  obtain ⟨i1, r1, ⟨⟨c1, d1, e1, s1⟩, n1, g1, g2, g3, g4⟩, _⟩ := I.list ha
  obtain ⟨i2, r2, ⟨⟨c2, d2, e2, s2⟩, n2, k1, k2, k3, k4⟩, _⟩ := I.list hb
  simp only at g2 g3 g4 k2 k3 k4
  subst g2 g3 g4 k2 k3 k4
  have l1 := r1.length
  have l2 := r2.length
  refine concat_meets ⟨_, g1, rfl⟩ ⟨_, k1, rfl⟩ noFill_list_add seq_list_add PySem.F.slot_list_add PySem.F.entry_list_add (PySem.F.args_list_add_2 _ _) (PyProof.Rows.list_addW a b i1.toArray i2.toArray n1 n2 none none s1 s2 (by rw [List.size_toArray, List.size_toArray]; omega)) ⟨g1, k1, ?_⟩
  have ea : i1.toArray ++ i2.toArray = (i1 ++ i2).toArray := by simp
  rw [ea]
  exact ⟨.ref _, _, I.lnew (t' := s.toks) (r1.append r2) (by rw [List.length_append]; omega), rfl, q _ I.fresh⟩
def plusD : D → D → Option Vl
  | .lst l, .lst m => if l.length + m.length ≤ big then some (.own (.lst (l ++ m))) else none
  | .tup l, .tup m => if l.length + m.length ≤ big then some (.imm (.tup (l ++ m))) else none
  | x, y => addD x y
/-- t + u, the new one told as the prover likes -/
def rCatF (K : PySem.W.Frag) : R2 := fun x y H Q => ∃ a b xs ys, x = .ref a ∧ y = .ref b ∧ SqT K H a xs ∧ SqT K H b ys ∧ xs.length + ys.length ≤ sizeLine ∧
  (xs = [] → Q (.ref b) H) ∧ (xs ≠ [] → ys = [] → Q (.ref a) H) ∧ (xs ≠ [] → ys ≠ [] → NewT Q H (xs ++ ys))
theorem op_catF : OpR X (binaryOp .Add) (rCatF X.K) := by
  intro pins s σ H x y v u Q I rx ry h
  obtain ⟨a, b, xs, ys, rfl, rfl, ha, hb, hz, q0, q1, q2⟩ := h
  by_cases hx : xs = []
  · exact op_catA pins s σ H _ _ v u Q I rx ry ⟨a, b, xs, ys, rfl, rfl, ha, hb, hz, q0, q1, fun h => absurd hx h⟩
  · cases rx
    cases ry
    obtain ⟨its, r1, p1, _⟩ := I.tuple ha
    obtain ⟨its2, r2, p2, _⟩ := I.tuple hb
    refine HT.cat_tup p1 p2 (fun z => hx (r1.nil_iff.mp z)) (fun z => ⟨.ref a, H, I, rfl, q1 hx (r2.nil_iff.mp z)⟩) (fun z => ?_) (by rw [← r1.length, ← r2.length]; exact hz)
    obtain ⟨b, q⟩ := q2 hx fun w => z (r2.nil_iff.mpr w)
    have new := Heap.get?_push_size s.heap (o := { cls := .type "tuple", data := .seq (its ++ its2).toArray }) rfl
    exact ⟨.ref s.heap.objs.size, upd H s.heap.objs.size (tupHO b { cls := .type "tuple", data := .seq (its ++ its2).toArray } (xs ++ ys)), I.laid (t' := s.toks) (fun b ob q => Heap.get?_push_of_some _ q) (Nat.le_refl _) (tupHO_ok new ⟨by rw [List.length_append]; exact hz, _, r1.append r2, IsTup.new _ _⟩), rfl, q _ _ (I.hok.fresh (Nat.le_refl _)) rfl⟩
theorem op_plusD : ∃ r, OpR X (binaryOp .Add) r ∧ OpD X.K r plusD := by
  obtain ⟨r0, h1, h2⟩ := op_addD (X := X)
  refine ⟨_, PF.OpR.or (PF.OpR.or op_catL op_catF) h1, fun H x y u w v Q rx ry e q => ?_⟩
  unfold plusD at e
  split at e
  · rename_i l m
    split at e
    · rename_i hl
      cases e
      obtain ⟨a, vs, rfl, h1, r1⟩ := rx
      obtain ⟨b, ws, rfl, h2, r2⟩ := ry
      exact .inl (.inl ⟨a, b, vs, ws, rfl, rfl, h1, h2, by rw [r1.length, r2.length]; exact big_line hl, fun p hp => q.lst (r1.app r2) hp⟩)
    · cases e
  · rename_i l m
    split at e
    · rename_i hl
      cases e
      obtain ⟨a, vs, rfl, h1, r1⟩ := rx
      obtain ⟨b, ws, rfl, h2, r2⟩ := ry
      refine .inl (.inr ⟨a, b, vs, ws, rfl, rfl, SqT.of h1, SqT.of h2, by rw [r1.length, r2.length]; exact big_line hl, fun e0 => ?_, fun _ e0 => ?_, fun _ _ => .of q (r1.app r2)⟩)
      · subst e0
        cases l with
        | nil => exact q.imm ⟨b, ws, rfl, h2, r2⟩
        | cons d l => obtain ⟨_, _, z, _⟩ := r1; cases z
      · subst e0
        cases m with
        | nil => rw [List.append_nil] at q; exact q.imm ⟨a, vs, rfl, h1, r1⟩
        | cons d l => obtain ⟨_, _, z, _⟩ := r2; cases z
    · cases e
  · exact .inr (h2 H x y u w v Q rx ry e q)
/-! ### length -/
def lenD : D → Option Vl
  | .str s => if s.length ≤ big then some (.imm (.int s.length)) else none
  | .lst l => some (.imm (.int l.length))
  | .tup l => some (.imm (.int l.length))
  | _ => none
/-- a built-in function, a built-in class, of one argument -/
theorem pd_call1 {x : Str} {id : String} {f : D → Option Vl} {e : Expr} {a : SE} {p pos : Pos} (hm : X.mg x = none) (hv : bootBuiltins x = some (.builtin id)) (h : ∃ r, CallR X (.builtin id) r ∧ UnD X.K (fun u H Q => r [u] H Q) f) (ha : PEd X W e a) (hg : Gl X x := by rfl) (hn : x ≠ "__name__" := by decide)
    (hdb : (x == ("__debug__" : Str)) = false := by decide) (hs : starEach (e :: []) X.env = (false, eval e X.env) :: starEach [] X.env := by rfl) (hpl : (backTo pos (starEach [] X.env)).any (·.1) = false := by rfl) : PEd X W (.Call (.Name x p) [e] [] pos) (eUn f a) := by
  obtain ⟨r, h1, h2⟩ := h
  obtain ⟨te, a1, a2⟩ := ha
  exact ⟨_, pe_callB h1 hg hm hv (pa_cons a1 pa_nil hs) hn hdb hs hpl, sd_un (r := fun u H Q => r [u] H Q) h2 a2⟩
theorem pd_call2 {x : Str} {id : String} {f : D → D → Option Vl} {e e2 : Expr} {a b : SE} {p pos : Pos} (hm : X.mg x = none) (hv : bootBuiltins x = some (.builtin id)) (h : ∃ r, CallR X (.builtin id) r ∧ OpD X.K (fun u w H Q => r [u, w] H Q) f) (ha : PEd X W e a) (hb : PEd X W e2 b) (hg : Gl X x := by rfl) (hn : x ≠ "__name__" := by decide)
    (hdb : (x == ("__debug__" : Str)) = false := by decide) (hs : starEach (e :: [e2]) X.env = (false, eval e X.env) :: starEach [e2] X.env := by rfl) (hs2 : starEach (e2 :: []) X.env = (false, eval e2 X.env) :: starEach [] X.env := by rfl) (hpl : (backTo pos (starEach [e2] X.env)).any (·.1) = false := by rfl) : PEd X W (.Call (.Name x p) [e, e2] [] pos) (eBin f a b) := by
  obtain ⟨r, h1, h2⟩ := h
  obtain ⟨te, a1, a2⟩ := ha
  obtain ⟨tf, b1, b2⟩ := hb
  exact ⟨_, pe_callB h1 hg hm hv (pa_cons a1 (pa_cons b1 pa_nil hs2) hs) hn hdb hs hpl, sd_bin (r := fun u w H Q => r [u, w] H Q) h2 a2 b2⟩
def maxD : D → D → Option Vl
  | .int i, .int j => some (.imm (.int (if j > i then j else i)))
  | _, _ => none
theorem call_maxD (hc : X.calm = true) : ∃ r, CallR X (.builtin "max") r ∧ OpD X.K (fun u w H Q => r [u, w] H Q) maxD := by
  refine ⟨_, call_max2 hc, fun H x y u w v Q rx ry e q => ?_⟩
  unfold maxD at e
  split at e
  · cases e; cases rx; cases ry; exact ⟨_, _, rfl, q.imm rfl⟩
  · cases e
/-- list(reversed(xs)) -/
def lrevD : D → Option Vl
  | .lst l => some (.own (.lst l.reverse))
  | _ => none
theorem RIs.rev {H : Hp} : ∀ {l : List D} {vs : List V}, RIs K H l vs → RIs K H l.reverse vs.reverse
  | [], _, h => by cases h; rfl
  | d :: l, _, ⟨v, r, e, q, h⟩ => by
    rw [e, List.reverse_cons, List.reverse_cons]
    exact (RIs.rev h).app ⟨v, [], rfl, q, rfl⟩
theorem pd_lrev {k : Nat} {e : Expr} {a : SE} {p1 p2 pos1 pos2 : Pos} (C : Ctx X W k) (hm : X.mg "list" = none) (hm2 : X.mg "reversed" = none) (ha : PEd X W e a) (hg : Gl X "list" := by rfl) (hg2 : Gl X "reversed" := by rfl) (na : starEach [e] X.env = (false, eval e X.env) :: starEach [] X.env := by rfl)
    (nb : starEach [.Call (.Name "reversed" p2) [e] [] pos2] X.env = (false, eval (.Call (.Name "reversed" p2) [e] [] pos2) X.env) :: starEach [] X.env := by rfl) : PEd X W (.Call (.Name "list" p1) [.Call (.Name "reversed" p2) [e] [] pos2] [] pos1) (eUn lrevD a) := by
  obtain ⟨te, a1, a2⟩ := ha
  refine ⟨_, pe_lrev C.calm hm hm2 a1 hg hg2 na nb, sd_un (r := rLrev X.K) (fun H x u v Q rx e q => ?_) a2⟩
  unfold lrevD at e
  split at e
  · cases e
    obtain ⟨a, vs, rfl, h1, r1⟩ := rx
    exact ⟨a, vs, rfl, h1, fun p hp => q.lst r1.rev hp⟩
  · cases e

/-! ### x[i] -/
def keyD : D → Option DK
  | .int i => some (.inl i)
  | .str s => some (.inr s)
  | _ => none
def keysD : List D → Option (List DK)
  | [] => some []
  | d :: l => match keyD d, keysD l with
    | some k, some ks => some (k :: ks)
    | _, _ => none
def assocD {α β : Type} [DecidableEq α] (k : α) : List (α × β) → Option β
  | [] => none
  | (a, b) :: l => if a = k then some b else assocD k l
theorem keysD_np {ks : List D} {k : List DK} (h : keysD ks = some k) : pairy ks = false := by
  cases ks with
  | nil => rfl
  | cons d l =>
    have e : pairyE d = false := by
      cases d with
      | tup m => unfold keysD at h; simp [keyD] at h
      | _ => rfl
    unfold pairy
    rw [List.all_cons, e]; simp
def idxD : D → D → Option Vl
  | .lst l, .int i => (atI l i).map .imm
  | .tup l, .int i => (atI l i).map .imm
  | .str s, .int i => if s.length ≤ big then (atI s i).map fun c => .imm (.str [c]) else none
  | .dct l, k => match keyD k with
    | some k => (assocD k l).map .imm
    | none => none
  | .dcT l, .tup ks => match keysD ks with
    | some k => (assocD k l).map .imm
    | none => none
  | .deal sd nm lf, .str s => if s = [115, 101, 101, 100] then some (.imm (.int sd)) else if s = [110, 117, 109, 98, 101, 114] then some (.imm (.int nm)) else none
  | _, _ => none
theorem RIs.atI {H : Hp} {l : List D} {vs : List V} {i : Int} {d : D} (h : RIs K H l vs) (e : L2.atI l i = some d) : ∃ v, L2.atI vs i = some v ∧ RI K H d v := by
  unfold L2.atI at e ⊢
  rw [h.length]
  cases q : ixN l.length i with
  | none => rw [q] at e; cases e
  | some j => rw [q] at e; exact h.get e
theorem toK_inj {a b : DK} (h : toK a = toK b) : a = b := by
  cases a with
  | inl i => cases b with
    | inl j => cases h; rfl
    | inr t => cases h
  | inr s => cases b with
    | inl j => cases h
    | inr t =>
      have h' : (Sum.inr (mkS s) : Key) = Sum.inr (mkS t) := h
      injection h' with h2
      rw [mkS_inj h2]
theorem toKs_inj : ∀ {a b : List DK}, a.map toK = b.map toK → a = b
  | [], [], _ => rfl
  | [], _ :: _, h => by simp at h
  | _ :: _, [], h => by simp at h
  | x :: a, y :: b, h => by
    rw [List.map_cons, List.map_cons] at h
    injection h with h1 h2
    rw [toK_inj h1, toKs_inj h2]
theorem RIk.val {H : Hp} (k : DK) : ∀ {l : List (DK × D)} {vs : List (Key × V)}, RIk K H l vs → (∀ d, assocD k l = some d → ∃ v, valV vs (toK k) = some v ∧ RI K H d v) ∧ (assocD k l = none → valV vs (toK k) = none)
  | [], _, h => by cases h; exact ⟨fun d z => (by cases z), fun _ => rfl⟩
  | (a, d) :: l, vs, ⟨v, r, e, q, h⟩ => by
    subst e
    have ih := RIk.val k h
    by_cases hk : a = k
    · subst hk
      refine ⟨fun d' z => ?_, fun z => ?_⟩
      · unfold assocD at z
        rw [if_pos rfl] at z
        cases z
        exact ⟨v, by simp [valV], q⟩
      · unfold assocD at z
        rw [if_pos rfl] at z
        cases z
    · have hk' : toK a ≠ toK k := fun z => hk (toK_inj z)
      have ev : valV ((toK a, v) :: r) (toK k) = valV r (toK k) := by simp [valV, hk']
      unfold assocD
      rw [if_neg hk, ev]
      exact ih
theorem RIt.val {H : Hp} (k : List DK) : ∀ {l : List (List DK × D)} {vs : List (List Key × V)}, RIt K H l vs → (∀ d, assocD k l = some d → ∃ v, valV vs (k.map toK) = some v ∧ RI K H d v) ∧ (assocD k l = none → valV vs (k.map toK) = none)
  | [], _, h => by cases h; exact ⟨fun d z => (by cases z), fun _ => rfl⟩
  | (a, d) :: l, vs, ⟨v, r, e, q, h⟩ => by
    subst e
    have ih := RIt.val k h
    by_cases hk : a = k
    · subst hk
      refine ⟨fun d' z => ?_, fun z => ?_⟩
      · unfold assocD at z
        rw [if_pos rfl] at z
        cases z
        exact ⟨v, by simp [valV], q⟩
      · unfold assocD at z
        rw [if_pos rfl] at z
        cases z
    · have hk' : a.map toK ≠ k.map toK := fun z => hk (toKs_inj z)
      have ev : valV ((a.map toK, v) :: r) (k.map toK) = valV r (k.map toK) := by simp [valV, hk']
      unfold assocD
      rw [if_neg hk, ev]
      exact ih
theorem keyD_ok {H : Hp} {d : D} {v : V} {k : DK} (h : keyD d = some k) (r : RdR K H d v) : v = kV (toK k) := by
  cases d with
  | int i => cases h; cases r; rfl
  | str s => cases h; cases r; rfl
  | _ => cases h
theorem keysD_ok {H : Hp} : ∀ {l : List D} {vs : List V} {ks : List DK}, keysD l = some ks → RIs K H l vs → vs = (ks.map toK).map kV
  | [], _, _, h, r => by cases h; cases r; rfl
  | d :: l, _, ks, h, ⟨v, r, e, q, rs⟩ => by
    unfold keysD at h
    cases h1 : keyD d with
    | none => rw [h1] at h; cases h
    | some k =>
      cases h2 : keysD l with
      | none => rw [h1, h2] at h; cases h
      | some ks' =>
        rw [h1, h2] at h
        cases h
        rw [e, keyD_ok h1 q.rd, keysD_ok h2 rs]
        rfl
theorem ix_dictD (hu : X.A.units + 1 < cLine) : IxR X (fun x y H Q => ∃ a v, x = .ref a ∧ DGet H a y (some v) ∧ Q v H) := by
  intro value slice pins s σ H x y v u Q I rx ry h hs
  obtain ⟨a, w, rfl, g, q⟩ := h
  cases rx
  exact tail_any (dict_typeIs I g) PySem.F.slot_dict_getitem.lookup (d_getItem hu I g ry fun w' s' I' r => ⟨w, H, I', r, q⟩) hs
theorem ix_D (hu : X.A.units + 1 < cLine) : ∃ r, IxR X r ∧ OpD X.K r idxD := by
  refine ⟨_, ix_seq.or (ix_dictD hu), fun H x y u w v Q rx ry e q => ?_⟩
  unfold idxD at e
  split at e
  · rename_i l i
    obtain ⟨a, vs, rfl, h1, r1⟩ := rx
    cases ry
    cases ei : L2.atI l i with
    | none => rw [ei] at e; cases e
    | some d =>
      rw [ei] at e
      cases e
      obtain ⟨z, hz, rz⟩ := r1.atI ei
      exact .inl (.inl ⟨a, vs, i, z, rfl, rfl, h1, hz, q.imm rz⟩)
  · rename_i l i
    obtain ⟨a, vs, rfl, h1, r1⟩ := rx
    cases ry
    cases ei : L2.atI l i with
    | none => rw [ei] at e; cases e
    | some d =>
      rw [ei] at e
      cases e
      obtain ⟨z, hz, rz⟩ := r1.atI ei
      exact .inl (.inr (.inl ⟨a, vs, i, z, rfl, rfl, SqT.of h1, hz, q.imm rz⟩))
  · rename_i s i
    cases rx; cases ry
    split at e
    · rename_i hl
      cases ei : L2.atI s i with
      | none => rw [ei] at e; cases e
      | some c =>
        rw [ei] at e
        cases e
        exact .inl (.inr (.inr ⟨_, i, c, rfl, rfl, by rw [mkS_length]; exact big_line hl, by rw [mkS_list]; exact ei, q.imm rfl⟩))
    · cases e
  · rename_i l
    obtain ⟨a, vs, rfl, h1, r1⟩ := rx
    split at e
    · rename_i k' hk
      cases ea : assocD k' l with
      | none => rw [ea] at e; cases e
      | some d =>
        rw [ea] at e
        cases e
        obtain ⟨z, hz, rz⟩ := (r1.val k').1 d ea
        exact .inr ⟨a, z, rfl, .inl ⟨vs, toK k', h1, keyD_ok hk ry, hz.symm⟩, q.imm rz⟩
    · cases e
  · rename_i l ks
    obtain ⟨a, vs, rfl, h1, r1⟩ := rx
    obtain ⟨b, ws, rfl, h2, r2⟩ := ry
    split at e
    · rename_i k' hk
      cases ea : assocD k' l with
      | none => rw [ea] at e; cases e
      | some d =>
        rw [ea] at e
        cases e
        obtain ⟨z, hz, rz⟩ := (r1.val k').1 d ea
        refine .inr ⟨a, z, rfl, .inr ⟨vs, k'.map toK, b, h1, rfl, ?_, hz.symm⟩, q.imm rz⟩
        rw [h2.key (keysD_np hk), keysD_ok hk r2]
    · cases e
  · rename_i sd nm lf s
    obtain ⟨a, b, rfl, h1, r1⟩ := rx
    cases ry
    split at e
    · rename_i hs
      subst hs
      cases e
      exact .inr ⟨a, .int sd, rfl, .inl ⟨_, _, h1, (rfl : _ = kV (Sum.inr _)), by simp [valV, dealK]⟩, q.imm rfl⟩
    · split at e
      · rename_i h0 hs
        subst hs
        cases e
        refine .inr ⟨a, .int nm, rfl, .inl ⟨_, _, h1, (rfl : _ = kV (Sum.inr _)), ?_⟩, q.imm rfl⟩
        have n1 : mkS [115, 101, 101, 100] ≠ mkS [110, 117, 109, 98, 101, 114] := fun z => by have := mkS_inj z; simp at this
        simp [valV, dealK, n1]
      · cases e
  · cases e
theorem pd_ix {k : Nat} {a b : Expr} {sa sb : SE} {pos : Pos} (C : Ctx X W k) (ha : PEd X W a sa) (hb : PEd X W b sb) (hs : PlainIx b := by exact fun _ _ => rfl) : PEd X W (.Subscript a b pos) (eBin idxD sa sb) := by
  obtain ⟨r, h1, h2⟩ := ix_D (X := X) (by have := C.u64; omega)
  obtain ⟨ta, a1, a2⟩ := ha
  obtain ⟨tb, b1, b2⟩ := hb
  exact ⟨_, pe_ix h1 a1 b1 hs, sd_bin h2 a2 b2⟩
end
end PF

/-! membership, None, slices, lists that grow, the dealer -/
namespace PF
open PySem PySem.Spec PyProof.Rows
open L2
section
variable {X : Cx} {W : WX} {K : PySem.W.Frag} {mg : Str → Option Value}
/-! ### in -/
def flatD : D → Bool
  | .non => true
  | .bl _ => true
  | .int _ => true
  | .str _ => true
  | _ => false
def memD (neg : Bool) : D → D → Option Vl
  | d, .lst l => if flatD d && l.all flatD then some (.imm (.bl (if neg then !(l.any fun x => eqP x d) else l.any fun x => eqP x d))) else none
  | d, .tup l => if flatD d && l.all flatD then some (.imm (.bl (if neg then !(l.any fun x => eqP x d) else l.any fun x => eqP x d))) else none
  | .str [c], .str s => some (.imm (.bl (if neg then !decide (c ∈ s) else decide (c ∈ s))))
  | d, .dct l => match keyD d with
    | some k => some (.imm (.bl (if neg then !(assocD k l).isSome else (assocD k l).isSome)))
    | none => none
  | .tup ks, .dcT l => match keysD ks with
    | some k => some (.imm (.bl (if neg then !(assocD k l).isSome else (assocD k l).isSome)))
    | none => none
  | _, _ => none
theorem Ctx.u1 {k : Nat} (C : Ctx X W k) : X.A.units + 1 < cLine := by have := C.u64; omega
/-! ### is None -/
/-! ### slices -/
theorem VlR.keep2 {P : Nat → Option V} {σ : L2.St} {H H' : Hp} {F F' : Nat → FS} {S S' : FS} {v : Vl} {u : V} (r : VlR K σ H S v u) (dj : ∀ i a, F i a → ¬ S a) (f : Frm (PF.Un F) (fun a => PF.Un F' a ∨ S' a) H H') : ∃ S2, VlR K σ H' S2 v u ∧ ∀ i a, F' i a → ¬ S2 a := by
  cases v with
  | imm d => exact ⟨fun _ => False, RI.mono f.ext r, fun _ _ _ z => z⟩
  | ref i => exact ⟨fun _ => False, r, fun _ _ _ z => z⟩
  | own d =>
    refine ⟨S, VlR.keep (F := F) r dj f, fun i a z s => ?_⟩
    rcases f.sub a (.inl ⟨i, z⟩) with q | q
    · obtain ⟨j, q⟩ := q
      exact dj j a q s
    · exact r.2 a s q
def cutD {α : Type} (l : List α) (lo hi : Option Int) : List α := (l.drop (HT.sIx l.length 0 lo)).take (HT.sIx l.length l.length hi - HT.sIx l.length 0 lo)
def slcD (lo hi : Option Int) : D → Option Vl
  | .lst l => some (.own (.lst (cutD l lo hi)))
  | .tup l => some (.imm (.tup (cutD l lo hi)))
  | .str s => if s.length ≤ big then some (.imm (.str (cutD s lo hi))) else none
  | _ => none
/-- a part of a slice -/
inductive Prt where
  | no | at (a : SE)
def prt : Prt → Env → Out (Option Int)
  | .no, ρ => .ok none ρ
  | .at a, ρ => (a ρ).bind fun v ρ1 => match v with
    | .imm (.int i) => .ok (some i) ρ1
    | _ => .fail
def eSlc (a : SE) (lo hi : Prt) : SE := fun ρ => (a ρ).bind fun v ρ1 => (prt lo ρ1).bind fun l ρ2 => (prt hi ρ2).bind fun h ρ3 => match rd ρ3 v with
  | some d => match slcD l h d with
    | some r => .ok r ρ3
    | none => .fail
  | none => .fail
def SdO (K : PySem.W.Frag) (mg : Str → Option Value) (W : WX) (t : TO) (p : Prt) : Prop := ∀ P σ H F ρ Q, EnvR K P H F ρ σ → PostO K mg P W σ (fun _ _ a b => a = b) Q F H (prt p ρ) → t σ H Q
def POd (X : Cx) (W : WX) (e : Option Expr) (p : Prt) : Prop := ∃ t, PO X e t ∧ SdO X.K X.mg W t p
theorem pod_at {e : Expr} {a : SE} (h : PEd X W e a) : POd X W (some e) (.at a) := by
  obtain ⟨te, h1, h2⟩ := h
  refine ⟨_, po_some h1, fun P σ H F ρ Q E h => ?_⟩
  refine h2 P σ H F ρ _ E ?_
  unfold prt at h
  dsimp only at h
  cases ea : a ρ with
  | fail => rw [ea] at h; exact h
  | exc x ρ1 => rw [ea] at h; exact h
  | ok v ρ1 =>
    rw [ea, Out.bind_ok] at h
    intro u H1 F1 S1 E1 R1 dj1 f1
    split at h
    · rename_i i
      cases R1
      exact ⟨i, rfl, h (some i) H1 F1 S1 E1 rfl dj1 f1⟩
    · exact h.elim
/-- t[lo:hi], a new one told as the prover likes -/
def rSlF (K : PySem.W.Frag) : V → Option Int → Option Int → Hp → VK → Prop := fun x lo hi H Q => ∃ a xs, x = .ref a ∧ SqT K H a xs ∧
  (HT.sIx xs.length 0 lo = 0 ∧ HT.sIx xs.length xs.length hi = xs.length → Q (.ref a) H) ∧ (¬ (HT.sIx xs.length 0 lo = 0 ∧ HT.sIx xs.length xs.length hi = xs.length) → NewT Q H (cutV xs lo hi))
theorem sl_tupF : L2.SlR X (rSlF X.K) := by
  intro pins s σ H x v vl vu lo hi sl Q I rx hs pl pu h
  obtain ⟨a, xs, rfl, hx, q1, q2⟩ := h
  by_cases hw : HT.sIx xs.length 0 lo = 0 ∧ HT.sIx xs.length xs.length hi = xs.length
  · exact sl_tupA pins s σ H _ v vl vu lo hi sl Q I rx hs pl pu ⟨a, xs, rfl, hx, q1, fun h => absurd hw h⟩
  · cases rx
    obtain ⟨its, r, ht, hz⟩ := I.tuple hx
    have hlen : its.toArray.size = xs.length := by rw [List.size_toArray]; exact r.length.symm
    refine ⟨"tuple", _, PyProof.Rows.slot_tuple_getitem.lookup, ht.typeIs, ?_⟩
    refine HT.getItem_tuple_cut ht hs pl pu (by rw [hlen]; exact hw) ?_ (by rw [hlen]; exact hz)
    rw [hlen]
    obtain ⟨b, q⟩ := q2 hw
    have okT : ∀ (its2 : List Value), Vals (cutV xs lo hi) its2 → ObjOk X.prog X.w (upd H s.heap.objs.size (tupHO b { cls := .type "tuple", data := .seq its2.toArray } (cutV xs lo hi))) (s.heap.push { cls := .type "tuple", data := .seq its2.toArray }) s.heap.objs.size (tupHO b { cls := .type "tuple", data := .seq its2.toArray } (cutV xs lo hi)) := fun its2 r2 =>
      tupHO_ok (Heap.get?_push_size s.heap rfl) ⟨Nat.le_trans (cutV_length xs lo hi) hz, its2, r2, IsTup.new _ _⟩
    exact ⟨.ref s.heap.objs.size, _, I.laid (t' := s.toks) (fun b ob q => Heap.get?_push_of_some _ q) (Nat.le_refl _) (okT _ ((r.drop (HT.sIx xs.length 0 lo)).take (HT.sIx xs.length xs.length hi - HT.sIx xs.length 0 lo))), rfl, q _ _ (I.hok.fresh (Nat.le_refl _)) rfl⟩
theorem sl_D : ∃ r : V → Option Int → Option Int → Hp → VK → Prop, L2.SlR X r ∧ ∀ H lo hi x u v Q, RdR X.K H x u → slcD lo hi x = some v → NewQ X.K H v Q → r u lo hi H Q := by
  refine ⟨_, sl_list.or (sl_tupF.or sl_str), fun H lo hi x u v Q rx e q => ?_⟩
  have cut : ∀ {l : List D} {vs : List V}, RIs X.K H l vs → RIs X.K H (cutD l lo hi) (cutV vs lo hi) := fun {l vs} r => by
    unfold cutD cutV
    rw [r.length]
    exact (r.drop _).take _
  unfold slcD at e
  split at e
  · cases e
    obtain ⟨a, vs, rfl, h1, r1⟩ := rx
    exact .inl ⟨a, vs, rfl, h1, fun p hp => q.lst (cut r1) hp⟩
  · rename_i l
    cases e
    obtain ⟨a, vs, rfl, h1, r1⟩ := rx
    refine .inr (.inl ⟨a, vs, rfl, SqT.of h1, fun hw => ?_, fun _ => .of q (cut r1)⟩)
    have e0 : cutD l lo hi = l := by
      unfold cutD
      rw [r1.length] at hw
      rw [hw.1, hw.2, List.drop_zero, Nat.sub_zero, List.take_length]
    rw [e0] at q
    exact q.imm ⟨a, vs, rfl, h1, r1⟩
  · rename_i s
    split at e
    · rename_i hl
      cases e; cases rx
      refine .inr (.inr ⟨_, rfl, by rw [mkS_length]; exact big_line hl, ?_⟩)
      have e1 : cutS (mkS s) lo hi = mkS (cutD s lo hi) := by
        unfold cutS cutD mkS
        simp [Str.length]
      rw [e1]
      exact q.imm rfl
    · cases e
  · cases e
theorem pd_slc {e : Expr} {lo hi : Option Expr} {a : SE} {pl ph : Prt} {pos p2 : Pos} (ha : PEd X W e a) (hl : POd X W lo pl) (hh : POd X W hi ph) : PEd X W (.Subscript e (.Slice lo hi none p2) pos) (eSlc a pl ph) := by
  obtain ⟨r, s1, s2⟩ := sl_D (X := X)
  obtain ⟨te, a1, a2⟩ := ha
  obtain ⟨tl, l1, l2⟩ := hl
  obtain ⟨th, h1, h2⟩ := hh
  refine ⟨_, pe_slice s1 a1 l1 h1, fun P σ H F ρ Q E h => ?_⟩
  refine a2 P σ H F ρ _ E ?_
  unfold eSlc at h
  cases ea : a ρ with
  | fail => rw [ea] at h; exact h
  | exc x ρ1 => rw [ea] at h; exact h
  | ok v ρ1 =>
    rw [ea, Out.bind_ok] at h
    intro u1 H1 F1 S1 E1 R1 dj1 f1
    refine l2 P σ H1 F1 ρ1 _ E1 ?_
    cases eb : prt pl ρ1 with
    | fail => rw [eb] at h; exact h
    | exc x ρ2 => rw [eb] at h; exact h.from f1
    | ok l ρ2 =>
      rw [eb, Out.bind_ok] at h
      intro u2 H2 F2 S2 E2 R2 dj2 f2
      cases R2
      refine h2 P σ H2 F2 ρ2 _ E2 ?_
      cases ec : prt ph ρ2 with
      | fail => rw [ec] at h; exact h
      | exc x ρ3 => rw [ec] at h; exact (h.from f1).from f2
      | ok hh ρ3 =>
        rw [ec, Out.bind_ok] at h
        intro u3 H3 F3 S3 E3 R3 dj3 f3
        cases R3
        obtain ⟨S4, R4, dj4⟩ := VlR.keep2 (P := P) R1 dj1 f2
        have R5 := R4.keep dj4 f3
        cases e1 : rd ρ3 v with
        | none => rw [e1] at h; exact h.elim
        | some d =>
          rw [e1] at h
          cases e2 : slcD l hh d with
          | none => simp only [e2] at h; exact h.elim
          | some r' =>
            simp only [e2] at h
            exact s2 H3 l hh d u1 r' _ (rd_ok E3 R5 e1) e2 (PostO.new E3 (((h.from f1).from f2).from f3))
end
end PF

/-! lists that grow, the dealer, dicts -/
namespace PF
open PySem PySem.Spec PyProof.Rows
open L2
section
variable {X : Cx} {W : WX} {K : PySem.W.Frag} {mg : Str → Option Value}
/-- slot i's own thing gets another content -/
def reS (i : Nat) (d : D) (ρ : Env) : Option Env := match ρ[i]? with
  | some (.own _) => some (ρ.set i (.own d))
  | some (.par _) => some (ρ.set i (.par d))
  | _ => none
/-- what slot i holds to be written -/
def owS (i : Nat) (ρ : Env) : Option D := match ρ[i]? with
  | some (.own d) => some d
  | some (.par d) => some d
  | _ => none
theorem owS_ok {P : Nat → Option V} {H : Hp} {F : Nat → FS} {ρ : Env} {σ : L2.St} {i : Nat} {d : D} (E : EnvR K P H F ρ σ) (h : owS i ρ = some d) : i < ρ.length ∧ ∃ v, σ[i]? = some (some v) ∧ OwnR K H (F i) d v := by
  unfold owS at h
  cases q : ρ[i]? with
  | none => rw [q] at h; cases h
  | some s =>
    rw [q] at h
    have z := E.sl i s q
    cases s with
    | own d' => cases h; obtain ⟨v, e, r⟩ := z; exact ⟨lt_of_get q, v, join_some e, r⟩
    | par d' => cases h; obtain ⟨v, e, _, r⟩ := z; exact ⟨lt_of_get q, v, join_some e, r⟩
    | non => cases h
    | imm _ => cases h
    | xcp _ _ _ => cases h
theorem reS_ok {P : Nat → Option V} {H : Hp} {F : Nat → FS} {ρ ρ' : Env} {σ : L2.St} {i : Nat} {d : D} {a : Addr} {o : HO} {v : V} (E : EnvR K P H F ρ σ) (h : reS i d ρ = some ρ') (hF : F i a) (n1 : NT H a) (n2 : ∀ b o u, H b = some (.frz o u) → b ≠ a)
    (hv : σ[i]? = some (some v)) (r : OwnR K (upd H a o) (F i) d v) : EnvR K P (upd H a o) F ρ' σ := by
  unfold reS at h
  cases q : ρ[i]? with
  | none => rw [q] at h; cases h
  | some s =>
    rw [q] at h
    have z := E.sl i s q
    rw [hv] at z
    cases s with
    | own d' =>
      cases h
      exact E.wr (lt_of_get q) hF n1 n2 (by rw [hv]; exact ⟨v, rfl, r⟩)
    | par d' =>
      cases h
      obtain ⟨v', e, hp, _⟩ := z
      cases e
      exact E.wr (lt_of_get q) hF n1 n2 (by rw [hv]; exact ⟨_, rfl, hp, r⟩)
    | non => cases h
    | imm _ => cases h
    | xcp _ _ _ => cases h
theorem ne_mut {H : Hp} {a : Addr} {o : HO} (h : H a = some o) (m : Mut (some o)) : NT H a ∧ (∀ b o u, H b = some (.frz o u) → b ≠ a) :=
  ⟨⟨fun b xs q z => by rw [z, h] at q; cases q; exact m, fun b fs q z => by rw [z, h] at q; cases q; exact m⟩, fun b o u q z => by rw [z, h] at q; cases q; exact m⟩
/-- x.append(e) -/
def sApp (i : Nat) (a : SE) : SS := fun ρ => match owS i ρ with
  | some (.lst _) => match a ρ with
    | .ok (.imm d) ρ1 => match owS i ρ1 with
      | some (.lst l) => if l.length < big then match reS i (.lst (l ++ [d])) ρ1 with
          | some ρ2 => .nx ρ2
          | none => .fail
        else .fail
      | _ => .fail
    | .exc x ρ1 => .exc x ρ1
    | _ => .fail
  | _ => .fail
theorem sd_app {te : TE} {a : SE} (i : Nat) (ha : SdE K mg W te a) : SdS K mg W (tDrop (tBM K "list" rAppend (tVar i) (tCons te tNil))) (sApp i a) := by
  intro P σ H F ρ D0 E h
  unfold sApp at h
  split at h
  · rename_i l0 q0
    obtain ⟨hi, v, hv, r0⟩ := owS_ok E q0
    obtain ⟨p, vs0, e, hF, hp, _⟩ := r0
    subst e
    refine ⟨.ref p, hv, .inl ⟨rfl, vs0, SqL.of hp⟩, ?_⟩
    refine ha P σ H F ρ _ E ?_
    cases ea : a ρ with
    | fail => rw [ea] at h; exact h
    | exc x ρ1 => rw [ea] at h; exact fun cls d H1 F1 E1 r f => h cls d σ H1 F1 E1 r f
    | ok v' ρ1 =>
      rw [ea] at h
      intro u H1 F1 S1 E1 R1 dj1 f1
      cases v' with
      | own d => exact h.elim
      | ref j => exact h.elim
      | imm d =>
        dsimp only at h
        split at h
        · rename_i l q1
          split at h
          · rename_i hl
            cases q2 : reS i (.lst (l ++ [d])) ρ1 with
            | none => rw [q2] at h; exact h.elim
            | some ρ2 =>
              rw [q2] at h
              obtain ⟨hi1, v1, hv1, r1⟩ := owS_ok E1 q1
              rw [hv] at hv1
              cases hv1
              obtain ⟨p', vs, e, hF1, hp1, rs⟩ := r1
              cases e
              have hlen : vs.length < sizeLine := by rw [rs.length]; exact Nat.lt_of_lt_of_le hl (big_line (Nat.le_refl _))
              refine ⟨p, vs, u, rfl, rfl, hp1, hlen, ?_⟩
              obtain ⟨n1, n2⟩ := ne_mut hp1 trivial
              have fr : Frm (PF.Un F1) (PF.Un F1) H1 (upd H1 p (.lst (vs ++ [u]))) := Frm.upd1 ⟨i, hF1⟩ (by rw [hp1]; exact fun z => nomatch z) n1 n2
              have r2 : OwnR K (upd H1 p (.lst (vs ++ [u]))) (F1 i) (.lst (l ++ [d])) (.ref p) := ⟨p, vs ++ [u], rfl, hF1, upd_same, (rs.mono fr.ext).app ⟨u, [], rfl, RI.mono fr.ext R1, rfl⟩⟩
              exact h σ _ F1 (reS_ok E1 q2 hF1 n1 n2 hv r2) ((noS (U := fun _ => False) f1).trans fr)
          · exact h.elim
        · exact h.elim
  · exact h.elim
theorem psd_app {i : Nat} {x : Str} {e : Expr} {a : SE} {apos cpos p pos : Pos} (ha : PEd X W e a) (hN : X.N[i]? = some x := by rfl) (hv : Vis X.env.scope x := by first | exact Or.inl rfl | exact Or.inr (Or.inl rfl) | exact Or.inr (Or.inr rfl)) (hd : (x == ("__debug__" : Str)) = false := by decide)
    (hcd : (x == ("__classdict__" : Str)) = false := by decide) (hs : swapsWith (.Call (.Attribute (.Name x p) "append" apos) [e] [] cpos) none pos.line X.env = pure false := by rfl) (hbase : attributeBase (.Name x p) "append" X.env (eval (.Name x p) X.env) = eval (.Name x p) X.env := by rfl)
    (hfew : ((backTo cpos (starEach [e] X.env)).all (fun x => !x.1) && (backToKw cpos (keywordEach [] X.env)).all (fun x => x.1.isSome) && decide ([e].length + ([] : List Keyword).length + (if ([] : List Keyword).isEmpty then 0 else 1) < 30)) = true := by rfl)
    (hline : (apos.endLine == cpos.line) = true := by rfl) (hse : starEach (e :: []) X.env = (false, eval e X.env) :: starEach [] X.env := by rfl) (hplain : (backTo cpos (starEach [] X.env)).any (·.1) = false := by rfl) :
    PSd X W (.Expr (.Call (.Attribute (.Name x p) "append" apos) [e] [] cpos) pos) (sApp i a) := by
  obtain ⟨te, a1, a2⟩ := ha
  exact ⟨_, ps_expr (pe_bm PySem.F.plainAttrs_list PySem.F.slot_list_append PySem.F.type_list_append mt_append (pe_var hN hv hd hcd) (pa_cons a1 pa_nil hse) hbase hfew hline hse hplain) hs, sd_app i a2⟩
/-! ### the dealer -/
/-- the three parts of a dealer's display, made -/
def eDeal (a b c : SE) : SE := fun ρ => (a ρ).bind fun va ρ1 => (b ρ1).bind fun vb ρ2 => (c ρ2).bind fun vc ρ3 => match va, vb, vc with
  | .imm (.int sd), .imm (.int nm), .own (.lst l) => match l.mapM (fun d => match d with
      | .int i => some i
      | _ => none) with
    | some lf => .ok (.own (.deal sd nm lf)) ρ3
    | none => .fail
  | _, _, _ => .fail
theorem ints_ok {H : Hp} : ∀ {l : List D} {vs : List V} {ns : List Int}, l.mapM (fun d => match d with
      | .int i => some i
      | _ => none) = some ns → RIs K H l vs → vs = ns.map V.int
  | [], _, ns, h, r => by cases r; simp at h; subst h; rfl
  | d :: l, _, ns, h, ⟨v, r, e, q, rs⟩ => by
    rw [List.mapM_cons] at h
    cases d with
    | int i =>
      cases q
      cases h2 : l.mapM (fun d => match d with
      | .int i => some i
      | _ => (none : Option Int)) with
      | none => simp [h2] at h
      | some ms =>
        simp [h2] at h
        subst h
        rw [e, ints_ok h2 rs]; rfl
    | _ => simp at h
end
end PF

/-! texts, isinstance, stores, the dealer -/
namespace PF
open PySem PySem.Spec PyProof.Rows
open L2
section
variable {X : Cx} {W : WX} {K : PySem.W.Frag} {mg : Str → Option Value}
/-! ### methods of texts -/
/-- a method of one argument, its object looked at ahead -/
def eM1 (ty : D → Bool) (f : D → D → Option Vl) (a b : SE) : SE := fun ρ => (a ρ).bind fun va ρ1 => match rd ρ1 va with
  | some d0 => if ty d0 then (b ρ1).bind fun vb ρ2 => match rd ρ2 va, rd ρ2 vb with
      | some x, some y => match f x y with
        | some v => .ok v ρ2
        | none => .fail
      | _, _ => .fail
    else .fail
  | none => .fail
theorem sd_m1 {T : String} {r : V → List V → Hp → VK → Prop} {ty : D → Bool} {f : D → D → Option Vl} {ta tb : TE} {a b : SE} (hty : ∀ H d u, RdR K H d u → ty d = true → tyV K T u H) (ho : OpD K (fun x y H Q => r x [y] H Q) f) (ha : SdE K mg W ta a) (hb : SdE K mg W tb b) :
    SdE K mg W (tBM K T r ta (tCons tb tNil)) (eM1 ty f a b) := by
  intro P σ H F ρ Q E h
  refine ha P σ H F ρ _ E ?_
  unfold eM1 at h
  cases ea : a ρ with
  | fail => rw [ea] at h; exact h
  | exc x ρ1 => rw [ea] at h; exact h
  | ok va ρ1 =>
    rw [ea] at h
    intro u1 H1 F1 S1 E1 R1 dj1 f1
    rw [Out.bind_ok] at h
    cases e0 : rd ρ1 va with
    | none => rw [e0] at h; exact h.elim
    | some d0 =>
      rw [e0] at h
      dsimp only at h
      split at h
      · rename_i ht
        refine ⟨hty _ _ _ (rd_ok E1 R1 e0) ht, ?_⟩
        refine hb P σ H1 F1 ρ1 _ E1 ?_
        cases eb : b ρ1 with
        | fail => rw [eb] at h; exact h
        | exc x ρ2 => rw [eb] at h; exact h.from f1
        | ok vb ρ2 =>
          rw [eb, Out.bind_ok] at h
          intro u2 H2 F2 S2 E2 R2 dj2 f2
          have R1' := R1.keep dj1 f2
          cases e1 : rd ρ2 va with
          | none => rw [e1] at h; exact h.elim
          | some x =>
            cases e2 : rd ρ2 vb with
            | none => rw [e1, e2] at h; exact h.elim
            | some y =>
              rw [e1, e2] at h
              cases e3 : f x y with
              | none => simp only [e3] at h; exact h.elim
              | some v =>
                simp only [e3] at h
                exact ho H2 x y u1 u2 v _ (rd_ok E2 R1' e1) (rd_ok E2 R2 e2) e3 (PostO.new E2 ((h.from f1).from f2))
      · exact h.elim
def isStrD : D → Bool
  | .str _ => true
  | _ => false
theorem isStr_ty : ∀ H d u, RdR K H d u → isStrD d = true → tyV K "str" u H := fun H d u r h => by
  cases d <;> first | (cases h; done) | (cases r; rfl)
def strsD : List D → Option (List (List Nat))
  | [] => some []
  | .str s :: l => (strsD l).map (s :: ·)
  | _ :: _ => none
def joinS (a : List Nat) (ys : List (List Nat)) : List Nat := (Txt.join (mkS a) (ys.map mkS)).cps.toList
def joinL (a : List Nat) (l : List D) : Option Vl := match strsD l with
  | some ys => if (ys.map (·.length)).sum + ys.length * a.length ≤ big then some (.imm (.str (joinS a ys))) else none
  | none => none
def joinD : D → D → Option Vl
  | .str a, .lst l => joinL a l
  | .str a, .tup l => joinL a l
  | _, _ => none
theorem strs_ok {H : Hp} : ∀ {l : List D} {vs : List V} {ys : List (List Nat)}, strsD l = some ys → RIs K H l vs → vs = (ys.map mkS).map V.str
  | [], _, _, h, r => by cases h; cases r; rfl
  | d :: l, _, ys, h, ⟨v, r, e, q, rs⟩ => by
    cases d with
    | str s =>
      unfold strsD at h
      cases h1 : strsD l with
      | none => rw [h1] at h; cases h
      | some ys' =>
        rw [h1] at h
        cases h; cases q
        rw [e, strs_ok h1 rs]; rfl
    | _ => cases h
theorem pd_join {e e2 : Expr} {a b : SE} {apos cpos : Pos} (ha : PEd X W e a) (hb : PEd X W e2 b) (hbase : attributeBase e "join" X.env (eval e X.env) = eval e X.env := by rfl)
    (hfew : ((backTo cpos (starEach [e2] X.env)).all (fun x => !x.1) && (backToKw cpos (keywordEach [] X.env)).all (fun x => x.1.isSome) && decide ([e2].length + ([] : List Keyword).length + (if ([] : List Keyword).isEmpty then 0 else 1) < 30)) = true := by rfl)
    (hline : (apos.endLine == cpos.line) = true := by rfl) (hse : starEach (e2 :: []) X.env = (false, eval e2 X.env) :: starEach [] X.env := by rfl) (hplain : (backTo cpos (starEach [] X.env)).any (·.1) = false := by rfl) :
    PEd X W (.Call (.Attribute e "join" apos) [e2] [] cpos) (eM1 isStrD joinD a b) := by
  obtain ⟨ta, a1, a2⟩ := ha
  obtain ⟨tb, b1, b2⟩ := hb
  refine ⟨_, pe_bm PySem.F.plainAttrs_str PySem.F.slot_str_join PySem.F.type_str_join mt_join a1 (pa_cons b1 pa_nil hse) hbase hfew hline hse hplain, sd_m1 isStr_ty (fun H x y u w v Q rx ry e q => ?_) a2 b2⟩
  have fin : ∀ {s : List Nat} {ys : List (List Nat)}, NewQ X.K H (.imm (.str (joinS s ys))) Q → Q (.str (Txt.join (mkS s) (ys.map mkS))) H := fun {s ys} q => by
    have := q.imm (u := .str (mkS (joinS s ys))) rfl
    rw [joinS, mkS_cps] at this
    exact this
  have sz : ∀ {s : List Nat} {ys : List (List Nat)}, (ys.map (·.length)).sum + ys.length * s.length ≤ big → (((ys.map mkS).map (·.length)).sum + (ys.map mkS).length * (mkS s).length ≤ 16777216) := fun {s ys} h => by
    have e1 : (ys.map mkS).map (·.length) = ys.map (·.length) := by rw [List.map_map]; exact List.map_congr_left fun a _ => mkS_length a
    rw [e1, List.length_map, mkS_length]
    exact Nat.le_trans h (by decide)
  unfold joinD at e
  split at e
  · rename_i s l
    unfold joinL at e
    split at e
    · rename_i ys hy
      split at e
      · rename_i hl
        cases e; cases rx
        obtain ⟨p, vs, rfl, h1, r1⟩ := ry
        have ev := strs_ok hy r1
        subst ev
        exact ⟨mkS s, p, ys.map mkS, rfl, rfl, .inl h1, sz hl, fin q⟩
      · cases e
    · cases e
  · rename_i s l
    unfold joinL at e
    split at e
    · rename_i ys hy
      split at e
      · rename_i hl
        cases e; cases rx
        obtain ⟨p, vs, rfl, h1, r1⟩ := ry
        have ev := strs_ok hy r1
        subst ev
        exact ⟨mkS s, p, ys.map mkS, rfl, rfl, .inr (SqT.of h1), sz hl, fin q⟩
      · cases e
    · cases e
  · cases e
/-! ### text * int -/
def timesD : D → D → Option Vl
  | .str s, .int n => if small62 n && (decide (n ≤ 1000) && decide (s.length ≤ 1000)) then some (.imm (.str (Txt.mul (mkS s) n).cps.toList)) else none
  | x, y => mulD x y
theorem op_mulS : OpR X (binaryOp .Mult) (fun x y H Q => ∃ z n, x = .str z ∧ y = .int n ∧ MulOk z n ∧ Q (.str (Txt.mul z n)) H) := by
  intro pins s σ H x y v u Q I rx ry h
  obtain ⟨z, n, rfl, rfl, ok, q⟩ := h
  obtain ⟨t, rfl⟩ := rx
  obtain ⟨t', rfl⟩ := ry
  exact SB.mul ok fun t' k => ⟨.str _, H, I.tok k, ⟨t', rfl⟩, q⟩
theorem op_timesD : ∃ r, OpR X (binaryOp .Mult) r ∧ OpD X.K r timesD := by
  obtain ⟨r0, h1, h2⟩ := op_mulD (X := X)
  refine ⟨_, PF.OpR.or op_mulS h1, fun H x y u w v Q rx ry e q => ?_⟩
  unfold timesD at e
  split at e
  · rename_i s n
    split at e
    · rename_i h
      rw [Bool.and_eq_true, Bool.and_eq_true, decide_eq_true_eq, decide_eq_true_eq] at h
      have h62 := small62_ok h.1
      cases e; cases rx; cases ry
      refine .inl ⟨_, n, rfl, rfl, mulOk_of 1000 1000 (by rw [mkS_length]; exact h.2.2) h.2.1 (by omega) (by decide) (by decide), ?_⟩
      have := q.imm (u := .str (mkS (Txt.mul (mkS s) n).cps.toList)) rfl
      rw [mkS_cps] at this
      exact this
    · cases e
  · exact .inr (h2 H x y u w v Q rx ry e q)
/-! ### -x -/
def negD : D → Option Vl
  | .int i => some (.imm (.int (-i)))
  | _ => none
theorem pd_neg {e : Expr} {a : SE} {pos : Pos} (h : PEd X W e a) : PEd X W (.UnaryOp .USub e pos) (eUn negD a) := by
  obtain ⟨te, h1, h2⟩ := h
  refine ⟨_, pe_un un_neg h1, sd_un (r := rU fun i => .int (-i)) (fun H x u v Q rx e q => ?_) h2⟩
  unfold negD at e
  split at e
  · cases e; cases rx; exact ⟨_, rfl, q.imm rfl⟩
  · cases e
/-! ### isinstance -/
/-! ### xs[::-1] -/
def revsD : D → Option Vl
  | .lst l => some (.own (.lst l.reverse))
  | _ => none
/-! ### all, any -/
def blsD : List D → Option (List Bool)
  | [] => some []
  | .bl b :: l => (blsD l).map (b :: ·)
  | _ :: _ => none
theorem bls_ok {H : Hp} : ∀ {l : List D} {vs : List V} {ys : List Bool}, blsD l = some ys → RIs K H l vs → vs = ys.map V.bl
  | [], _, _, h, r => by cases h; cases r; rfl
  | d :: l, _, ys, h, ⟨v, r, e, q, rs⟩ => by
    cases d with
    | bl s =>
      unfold blsD at h
      cases h1 : blsD l with
      | none => rw [h1] at h; cases h
      | some ys' =>
        rw [h1] at h
        cases h; cases q
        rw [e, bls_ok h1 rs]; rfl
    | _ => cases h
def allD : D → Option Vl
  | .lst l => match blsD l with
    | some bs => some (.imm (.bl (bs.all id)))
    | none => none
  | _ => none
theorem call_allD (hc : X.calm = true) : ∃ r, CallR X (.builtin "all") r ∧ UnD X.K (fun u H Q => r [u] H Q) allD := by
  refine ⟨_, cr_all hc, fun H x u v Q rx e q => ?_⟩
  unfold allD at e
  split at e
  · split at e
    · rename_i bs hb
      cases e
      obtain ⟨p, vs, rfl, h1, r1⟩ := rx
      have ev := bls_ok hb r1
      subst ev
      exact ⟨p, bs, rfl, h1, q.imm rfl⟩
    · cases e
  · cases e
/-! ### a def without arguments -/
end
end PF

/-! stores, displays, the dealer -/
namespace PF
open PySem PySem.Spec PyProof.Rows
open L2
section
variable {X : Cx} {W : WX} {K : PySem.W.Frag} {mg : Str → Option Value}
/-! ### x[k] = v -/
def putA {α : Type} [DecidableEq α] (l : List (α × D)) (k : α) (d : D) : List (α × D) := if (l.any fun kv => decide (kv.1 = k)) = true then l.map (fun kv => if kv.1 = k then (kv.1, d) else kv) else l ++ [(k, d)]
def kSeed : List Nat := [115, 101, 101, 100]
def kNumber : List Nat := [110, 117, 109, 98, 101, 114]
def kLeft : List Nat := [108, 101, 102, 116]
def putD : D → D → D → Option D
  | .lst l, .int k, d => match ixN l.length k with
    | some j => some (.lst (l.set j d))
    | none => none
  | .dct l, k, d => match keyD k with
    | some k => if l.length < big then some (.dct (putA l k d)) else none
    | none => none
  | .dcT l, .tup ks, d => match keysD ks with
    | some k => if l.length < big then some (.dcT (putA l k d)) else none
    | none => none
  | .deal sd nm lf, .str s, .int j => if s = kSeed then some (.deal j nm lf) else if s = kNumber then some (.deal sd j lf) else none
  | _, _, _ => none
theorem RIs.set {H : Hp} {d : D} {v : V} (r : RI K H d v) : ∀ {l : List D} {vs : List V} (j : Nat), RIs K H l vs → RIs K H (l.set j d) (vs.set j v)
  | [], _, _, h => by cases h; exact rfl
  | _ :: _, _, 0, ⟨_, w, e, _, h⟩ => ⟨v, w, by rw [e]; rfl, r, h⟩
  | _ :: _, _, j + 1, ⟨u, w, e, q, h⟩ => ⟨u, w.set j v, by rw [e]; rfl, q, RIs.set r j h⟩
theorem RIk.any {H : Hp} (k : DK) : ∀ {l : List (DK × D)} {vs : List (Key × V)}, RIk K H l vs → (vs.any fun kv => decide (kv.1 = toK k)) = (l.any fun kv => decide (kv.1 = k))
  | [], _, h => by cases h; rfl
  | (a, d) :: l, _, ⟨v, r, e, q, h⟩ => by
    rw [e, List.any_cons, List.any_cons, RIk.any k h]
    have : decide (toK a = toK k) = decide (a = k) := by
      by_cases z : a = k
      · subst z; simp
      · have z' : toK a ≠ toK k := fun y => z (toK_inj y)
        simp [z, z']
    rw [this]
theorem RIk.mapP {H : Hp} {k : DK} {d : D} {v : V} (r : RI K H d v) : ∀ {l : List (DK × D)} {vs : List (Key × V)}, RIk K H l vs → RIk K H (l.map fun kv => if kv.1 = k then (kv.1, d) else kv) (vs.map fun kv => if kv.1 = toK k then (kv.1, v) else kv)
  | [], _, h => by cases h; exact rfl
  | (a, d0) :: l, _, ⟨u, w, e, q, h⟩ => by
    rw [e, List.map_cons, List.map_cons]
    by_cases z : a = k
    · subst z
      rw [if_pos rfl, if_pos rfl]
      exact ⟨v, _, rfl, r, RIk.mapP r h⟩
    · have z' : toK a ≠ toK k := fun y => z (toK_inj y)
      rw [if_neg z, if_neg z']
      exact ⟨u, _, rfl, q, RIk.mapP r h⟩
theorem RIk.app {H : Hp} : ∀ {l m : List (DK × D)} {vs ws : List (Key × V)}, RIk K H l vs → RIk K H m ws → RIk K H (l ++ m) (vs ++ ws)
  | [], _, _, _, h, k => by cases h; exact k
  | (_, _) :: _, _, _, _, ⟨v, r, e, q, h⟩, k => ⟨v, _, by rw [e]; rfl, q, RIk.app h k⟩
theorem RIk.put {H : Hp} {k : DK} {d : D} {v : V} (r : RI K H d v) {l : List (DK × D)} {vs : List (Key × V)} (h : RIk K H l vs) : RIk K H (putA l k d) (putK vs (toK k) v) := by
  unfold putA putK
  rw [RIk.any k h]
  split
  · exact RIk.mapP r h
  · exact RIk.app h ⟨v, [], rfl, r, rfl⟩
theorem RIt.any {H : Hp} (k : List DK) : ∀ {l : List (List DK × D)} {vs : List (List Key × V)}, RIt K H l vs → (vs.any fun kv => decide (kv.1 = k.map toK)) = (l.any fun kv => decide (kv.1 = k))
  | [], _, h => by cases h; rfl
  | (a, d) :: l, _, ⟨v, r, e, q, h⟩ => by
    rw [e, List.any_cons, List.any_cons, RIt.any k h]
    have : decide (a.map toK = k.map toK) = decide (a = k) := by
      by_cases z : a = k
      · subst z; simp
      · have z' : a.map toK ≠ k.map toK := fun y => z (toKs_inj y)
        simp only [z, z']
    rw [this]
theorem RIt.mapP {H : Hp} {k : List DK} {d : D} {v : V} (r : RI K H d v) : ∀ {l : List (List DK × D)} {vs : List (List Key × V)}, RIt K H l vs → RIt K H (l.map fun kv => if kv.1 = k then (kv.1, d) else kv) (vs.map fun kv => if kv.1 = k.map toK then (kv.1, v) else kv)
  | [], _, h => by cases h; exact rfl
  | (a, d0) :: l, _, ⟨u, w, e, q, h⟩ => by
    rw [e, List.map_cons, List.map_cons]
    by_cases z : a = k
    · subst z
      rw [if_pos rfl, if_pos rfl]
      exact ⟨v, _, rfl, r, RIt.mapP r h⟩
    · have z' : a.map toK ≠ k.map toK := fun y => z (toKs_inj y)
      rw [if_neg z, if_neg z']
      exact ⟨u, _, rfl, q, RIt.mapP r h⟩
theorem RIt.app {H : Hp} : ∀ {l m : List (List DK × D)} {vs ws : List (List Key × V)}, RIt K H l vs → RIt K H m ws → RIt K H (l ++ m) (vs ++ ws)
  | [], _, _, _, h, k => by cases h; exact k
  | (_, _) :: _, _, _, _, ⟨v, r, e, q, h⟩, k => ⟨v, _, by rw [e]; rfl, q, RIt.app h k⟩
theorem RIt.put {H : Hp} {k : List DK} {d : D} {v : V} (r : RI K H d v) {l : List (List DK × D)} {vs : List (List Key × V)} (h : RIt K H l vs) : RIt K H (putA l k d) (putK vs (k.map toK) v) := by
  unfold putA putK
  rw [RIt.any k h]
  split
  · exact RIt.mapP r h
  · exact RIt.app h ⟨v, [], rfl, r, rfl⟩
theorem RIk.length {H : Hp} : ∀ {l : List (DK × D)} {vs : List (Key × V)}, RIk K H l vs → vs.length = l.length
  | [], _, h => by cases h; rfl
  | (_, _) :: _, _, ⟨_, _, e, _, h⟩ => by rw [e, List.length_cons, List.length_cons, RIk.length h]
theorem RIt.length {H : Hp} : ∀ {l : List (List DK × D)} {vs : List (List Key × V)}, RIt K H l vs → vs.length = l.length
  | [], _, h => by cases h; rfl
  | (_, _) :: _, _, ⟨_, _, e, _, h⟩ => by rw [e, List.length_cons, List.length_cons, RIt.length h]
theorem ext_upd {H : Hp} {p : Addr} {o o' : HO} (h : H p = some o) (m : Mut (some o)) : Ext H (upd H p o') :=
  let z := ne_mut h m
  ⟨fun b xs q => by rw [upd_ne (z.1.1 b xs q)]; exact q, fun b o u q => by rw [upd_ne (z.2 b o u q)]; exact q, fun b fs q => by rw [upd_ne (z.1.2 b fs q)]; exact q⟩
theorem ks_nl : mkS kSeed ≠ mkS kNumber := fun z => by have := mkS_inj z; simp [kSeed, kNumber] at this
theorem ks_nt : mkS kSeed ≠ mkS kLeft := fun z => by have := mkS_inj z; simp [kSeed, kLeft] at this
theorem kn_nt : mkS kNumber ≠ mkS kLeft := fun z => by have := mkS_inj z; simp [kNumber, kLeft] at this
theorem dealK_eq (sd nm : Int) (b : Addr) : dealK sd nm b = [(.inr (mkS kSeed), .int sd), (.inr (mkS kNumber), .int nm), (.inr (mkS kLeft), .ref b)] := rfl
theorem put_ok {H : Hp} {S : FS} {x kd d x' : D} {v y w : V} (ox : OwnR K H S x v) (ry : RdR K H kd y) (rw' : RI K H d w) (e : putD x kd d = some x') :
    ∃ p o o', v = .ref p ∧ S p ∧ H p = some o ∧ Mut (some o) ∧ OwnR K (upd H p o') S x' (.ref p) ∧ ∀ Q : Hp → Prop, Q (upd H p o') → rSetL (.ref p) y w H Q ∨ rSetD (.ref p) y w H Q := by
  unfold putD at e
  split at e
  · rename_i l k
    split at e
    · rename_i j hj
      cases e; cases ry
      obtain ⟨p, vs, rfl, s, hp, rs⟩ := ox
      refine ⟨p, _, .lst (vs.set j w), rfl, s, hp, trivial, ⟨p, _, rfl, s, upd_same, ?_⟩, fun Q q => .inl ⟨p, vs, k, j, rfl, rfl, hp, by rw [rs.length]; exact hj, q⟩⟩
      have ex := ext_upd (o' := .lst (vs.set j w)) hp trivial
      exact RIs.set (RI.mono ex rw') j (RIs.mono ex rs)
    · cases e
  · rename_i l
    split at e
    · rename_i k hk
      split at e
      · rename_i hl
        cases e
        obtain ⟨p, vs, rfl, s, hp, rs⟩ := ox
        have ex := ext_upd (o' := .dK (putK vs (toK k) w)) hp trivial
        refine ⟨p, _, .dK (putK vs (toK k) w), rfl, s, hp, trivial, ⟨p, _, rfl, s, upd_same, RIk.put (RI.mono ex rw') (RIk.mono ex rs)⟩, fun Q q => .inr ⟨p, _, rfl, .inl ⟨vs, toK k, hp, keyD_ok hk ry, ?_, rfl⟩, q⟩⟩
        rw [rs.length]; exact Nat.lt_of_lt_of_le hl (big_line (Nat.le_refl _))
      · cases e
    · cases e
  · rename_i l ks
    split at e
    · rename_i k hk
      split at e
      · rename_i hl
        cases e
        obtain ⟨p, vs, rfl, s, hp, rs⟩ := ox
        obtain ⟨b, ws, rfl, hb, r2⟩ := ry
        have ex := ext_upd (o' := .dT (putK vs (k.map toK) w)) hp trivial
        refine ⟨p, _, .dT (putK vs (k.map toK) w), rfl, s, hp, trivial, ⟨p, _, rfl, s, upd_same, RIt.put (RI.mono ex rw') (RIt.mono ex rs)⟩, fun Q q => .inr ⟨p, _, rfl, .inr ⟨vs, k.map toK, b, hp, rfl, by rw [hb.key (keysD_np hk), keysD_ok hk r2], ?_, rfl⟩, q⟩⟩
        rw [rs.length]; exact Nat.lt_of_lt_of_le hl (big_line (Nat.le_refl _))
      · cases e
    · cases e
  · rename_i sd nm lf s j
    obtain ⟨p, b, rfl, s1, s2, hp, hb⟩ := ox
    have nb : b ≠ p := fun z => by rw [z, hp] at hb; cases hb
    cases ry; cases rw'
    have h3 : (dealK sd nm b).length < sizeLine := by show 3 < sizeLine; rw [sizeLine_eq]; decide
    split at e
    · rename_i hs
      cases e
      subst hs
      have ep : putK (dealK sd nm b) (.inr (mkS kSeed)) (.int j) = dealK j nm b := by
        rw [dealK_eq, dealK_eq]
        simp [putK, ks_nl.symm, ks_nt.symm]
      exact ⟨p, _, .dK (dealK j nm b), rfl, s1, hp, trivial, ⟨p, b, rfl, s1, s2, upd_same, by rw [upd_ne nb]; exact hb⟩, fun Q q => .inr ⟨p, _, rfl, .inl ⟨_, .inr (mkS kSeed), hp, rfl, h3, by rw [ep]⟩, q⟩⟩
    · split at e
      · rename_i hs
        cases e
        subst hs
        have ep : putK (dealK sd nm b) (.inr (mkS kNumber)) (.int j) = dealK sd j b := by
          rw [dealK_eq, dealK_eq]
          simp [putK, ks_nl, kn_nt.symm]
        exact ⟨p, _, .dK (dealK sd j b), rfl, s1, hp, trivial, ⟨p, b, rfl, s1, s2, upd_same, by rw [upd_ne nb]; exact hb⟩, fun Q q => .inr ⟨p, _, rfl, .inl ⟨_, .inr (mkS kNumber), hp, rfl, h3, by rw [ep]⟩, q⟩⟩
      · cases e
  · cases e
def sPut (i : Nat) (k v : SE) : SS := fun ρ => match v ρ with
  | .ok (.imm d) ρ1 => match owS i ρ1 with
    | some _ => match k ρ1 with
      | .ok kv ρ2 => match rd ρ2 kv, owS i ρ2 with
        | some kd, some x => match putD x kd d with
          | some x' => match reS i x' ρ2 with
            | some ρ3 => .nx ρ3
            | none => .fail
          | none => .fail
        | _, _ => .fail
      | .exc x ρ2 => .exc x ρ2
      | .fail => .fail
    | none => .fail
  | .exc x ρ1 => .exc x ρ1
  | _ => .fail
theorem PSet.or {r r' : TSet} (h : PSet X r) (h' : PSet X r') : PSet X (fun o i v H Q => r o i v H Q ∨ r' o i v H Q) := by
  intro pins s σ H o i v ov iv u Q I ro ri rv q
  rcases q with q | q
  · exact h pins s σ H o i v ov iv u Q I ro ri rv q
  · exact h' pins s σ H o i v ov iv u Q I ro ri rv q
theorem sd_put {tk tv : TE} {k v : SE} (i : Nat) (hk : SdE K mg W tk k) (hv : SdE K mg W tv v) : SdS K mg W (tAsg tv (gSub (tVar i) tk (fun o i v H Q => rSetL o i v H Q ∨ rSetD o i v H Q))) (sPut i k v) := by
  intro P σ H F ρ D0 E h
  refine hv P σ H F ρ _ E ?_
  unfold sPut at h
  cases ev : v ρ with
  | fail => rw [ev] at h; exact h
  | exc x ρ1 => rw [ev] at h; exact fun cls d H1 F1 E1 r f => h cls d σ H1 F1 E1 r f
  | ok va ρ1 =>
    rw [ev] at h
    intro u1 H1 F1 S1 E1 R1 dj1 f1
    cases va with
    | own d => exact h.elim
    | ref j => exact h.elim
    | imm d =>
      dsimp only at h
      split at h
      · rename_i x0 q0
        obtain ⟨hi, vx, hvx, r0⟩ := owS_ok E1 q0
        refine ⟨vx, hvx, ?_⟩
        refine hk P σ H1 F1 ρ1 _ E1 ?_
        cases ek : k ρ1 with
        | fail => rw [ek] at h; exact h
        | exc x ρ2 => rw [ek] at h; exact fun cls d H2 F2 E2 r f => (h.from f1) cls d σ H2 F2 E2 r f
        | ok kv ρ2 =>
          rw [ek] at h
          intro u2 H2 F2 S2 E2 R2 dj2 f2
          dsimp only at h
          split at h
          · rename_i kd x e1 e2
            cases e3 : putD x kd d with
            | none => simp only [e3] at h; exact h.elim
            | some x' =>
              simp only [e3] at h
              cases e4 : reS i x' ρ2 with
              | none => simp only [e4] at h; exact h.elim
              | some ρ3 =>
                simp only [e4] at h
                obtain ⟨hi2, v2, hv2, r2⟩ := owS_ok E2 e2
                rw [hvx] at hv2
                cases hv2
                obtain ⟨p, o, o', ep, sp, hp, mu, ow, fin⟩ := put_ok r2 (rd_ok E2 R2 e1) (RI.mono f2.ext R1) e3
                subst ep
                refine fin _ ?_
                obtain ⟨n1, n2⟩ := ne_mut hp mu
                have fr : Frm (PF.Un F2) (PF.Un F2) H2 (upd H2 p o') := Frm.upd1 ⟨i, sp⟩ (by rw [hp]; exact fun z => nomatch z) n1 n2
                exact ((h.from f1).from f2) σ _ F2 (reS_ok E2 e4 sp n1 n2 hvx ow) fr
          · exact h.elim
      · exact h.elim
theorem psd_put {k : Nat} (i : Nat) {x : Str} {ek ev : Expr} {sk sv : SE} {p p2 pos : Pos} (C : Ctx X W k) (hk : PEd X W ek sk) (hv : PEd X W ev sv) (hN : X.N[i]? = some x := by rfl) (hvs : Vis X.env.scope x := by first | exact Or.inl rfl | exact Or.inr (Or.inl rfl) | exact Or.inr (Or.inr rfl))
    (hd : (x == ("__debug__" : Str)) = false := by decide) (hcd : (x == ("__classdict__" : Str)) = false := by decide)
    (ha : ∀ v, assign (.Subscript (.Name x p) ek p2) X.env v = (do
      let ov ← holding [v] (eval (.Name x p) X.env)
      let iv ← holding [v, ov] (eval ek X.env)
      standAt p2
      holding [v, ov, iv] (setItem ov iv v)
      release [v, ov, iv] []) := by intro _; rfl) (hs : swapsWithSole [.Subscript (.Name x p) ek p2] ev pos.line X.env = pure false := by rfl) (hw : swappedStores [.Subscript (.Name x p) ek p2] ev X.env = pure none := by rfl)
    (h1 : (assignEach [.Subscript (.Name x p) ek p2] X.env).map (·.2) = [assign (.Subscript (.Name x p) ek p2) X.env] := by rfl) : PSd X W (.Assign [.Subscript (.Name x p) ek p2] ev pos) (sPut i sk sv) := by
  obtain ⟨tk, k1, k2⟩ := hk
  obtain ⟨tv, v1, v2⟩ := hv
  exact ⟨_, ps_asg v1 (pg_sub (pe_var hN hvs hd hcd) k1 (PSet.or set_list (set_dict C.u1)) ha) hs hw h1, sd_put i k2 v2⟩

/-! ### the dealer's display -/
theorem Frm.add {U U' T : FS} {H H' : Hp} (f : Frm U U' H H') : Frm (fun a => U a ∨ T a) (fun a => U' a ∨ T a) H H' where
  keep := fun b o n q => f.keep b o (fun z => n (.inl z)) q
  ext := f.ext
  dom := f.dom
  sub := fun b z => z.elim (fun z => (f.sub b z).imp .inl id) fun z => .inl (.inr z)
theorem sd_deal {ta tb tc : TE} {a b c : SE} (ha : SdE K mg W ta a) (hb : SdE K mg W tb b) (hc : SdE K mg W tc c) :
    SdE K mg W (tDisp [(tC (.str (mkS kSeed)), ta), (tC (.str (mkS kNumber)), tb), (tC (.str (mkS kLeft)), tc)]) (eDeal a b c) := by
  intro P σ H F ρ Q E h p hp
  have g0 : Grow (fun a => a = p) H (upd H p (.dK [])) := ⟨fun b o e => by rw [upd_ne (ne_of_none e hp)]; exact e, fun a z => z ▸ hp⟩
  have E0 := E.grow g0
  have f0 : Frm (PF.Un F) (fun a => PF.Un F a ∨ a = p) H (upd H p (.dK [])) := Frm.of_grow g0
  have np0 : ¬ PF.Un F p := fun ⟨i, z⟩ => E.dom i p z hp
  have hp0 : (upd H p (.dK [])) p = some (.dK []) := upd_same
  refine ha P σ _ F ρ _ E0 ?_
  unfold eDeal at h
  cases ea : a ρ with
  | fail => rw [ea] at h; exact h
  | exc x ρ1 => rw [ea] at h; exact h.from f0
  | ok va ρ1 =>
    rw [ea, Out.bind_ok] at h
    intro u1 H1 F1 S1 E1 R1 dj1 f1
    have np1 : ¬ PF.Un F1 p := fun z => (f1.sub p (.inl z)).elim np0 (fun z => by rw [hp0] at z; cases z)
    have hp1 : H1 p = some (.dK []) := f1.keep p _ np0 hp0
    have f01 := f0.step (F1 := F) (S1 := fun a => a = p) f1
    refine hb P σ H1 F1 ρ1 _ E1 ?_
    cases eb : b ρ1 with
    | fail => rw [eb] at h; exact h
    | exc x ρ2 => rw [eb] at h; exact h.from f01
    | ok vb ρ2 =>
      rw [eb, Out.bind_ok] at h
      intro u2 H2 F2 S2 E2 R2 dj2 f2
      have np2 : ¬ PF.Un F2 p := fun z => (f2.sub p (.inl z)).elim np1 (fun z => by rw [hp1] at z; cases z)
      have hp2 : H2 p = some (.dK []) := f2.keep p _ np1 hp1
      have f02 := f01.step (F1 := F1) (S1 := S1) f2
      refine hc P σ H2 F2 ρ2 _ E2 ?_
      cases ec : c ρ2 with
      | fail => rw [ec] at h; exact h
      | exc x ρ3 => rw [ec] at h; exact h.from f02
      | ok vc ρ3 =>
        rw [ec, Out.bind_ok] at h
        intro u3 H3 F3 S3 E3 R3 dj3 f3
        have np3 : ¬ PF.Un F3 p := fun z => (f3.sub p (.inl z)).elim np2 (fun z => by rw [hp2] at z; cases z)
        have ns3 : ¬ S3 p := fun z => (f3.sub p (.inr z)).elim np2 (fun z => by rw [hp2] at z; cases z)
        have hp3 : H3 p = some (.dK []) := f3.keep p _ np2 hp2
        split at h
        · rename_i sd nm l
          split at h
          · rename_i lf hlf
            cases R1; cases R2
            obtain ⟨⟨q, vs, eq', sq, hq, rs⟩, dm3⟩ := R3
            subst eq'
            have ev := ints_ok hlf rs
            subst ev
            have nqp : q ≠ p := fun z => ns3 (z ▸ sq)
            refine ⟨hp3, [(.inr (mkS kSeed), .int sd), (.inr (mkS kNumber), .int nm), (.inr (mkS kLeft), .ref q)], rfl, (by show 3 ≤ 15; decide), ?_⟩
            have em : mergeK [] [(Sum.inr (mkS kSeed), V.int sd), (.inr (mkS kNumber), .int nm), (.inr (mkS kLeft), .ref q)] = dealK sd nm q := by
              rw [dealK_eq]
              simp [mergeK, putK, ks_nl, ks_nt, kn_nt]
            rw [em]
            obtain ⟨n1, n2⟩ := ne_mut hp3 trivial
            have ex := ext_upd (o' := .dK (dealK sd nm q)) hp3 trivial
            have dm : ∀ b, H3 b ≠ none → (upd H3 p (.dK (dealK sd nm q))) b ≠ none := fun b z => by
              by_cases e : b = p
              · rw [e, upd_same]; exact fun z => nomatch z
              · rw [upd_ne e]; exact z
            have fA : Frm (PF.Un F) (fun a => (PF.Un F3 a ∨ S3 a) ∨ a = p) H H3 := by
              refine f0.trans ?_
              have fB : Frm (PF.Un F) (fun a => PF.Un F3 a ∨ S3 a) (upd H p (.dK [])) H3 := ((f1.step (F1 := F1) f2).step (F1 := F2) f3)
              exact fB.add
            have fC : Frm (fun a => (PF.Un F3 a ∨ S3 a) ∨ a = p) (fun a => (PF.Un F3 a ∨ S3 a) ∨ a = p) H3 (upd H3 p (.dK (dealK sd nm q))) := Frm.upd1 (.inr rfl) (by rw [hp3]; exact fun z => nomatch z) n1 n2
            refine h (.ref p) _ F3 (fun a => S3 a ∨ a = p) ?_ ⟨⟨p, q, rfl, .inr rfl, .inl sq, upd_same, by rw [upd_ne nqp]; exact hq⟩, fun a z => ?_⟩ ?_ ?_
            · refine E3.keep (fun b o u e => ?_) ex dm
              have : b ≠ p := fun z => np3 (z ▸ u)
              rw [upd_ne this]; exact e
            · rcases z with z | z
              · exact dm a (dm3 a z)
              · rw [z, upd_same]; exact fun z => nomatch z
            · intro i a z1 z2
              rcases z2 with z2 | z2
              · exact dj3 i a z1 z2
              · exact np3 ⟨i, z2 ▸ z1⟩
            · exact (fA.trans fC).less fun b z => by
                rcases z with z | z | z
                · exact .inl (.inl z)
                · exact .inl (.inr z)
                · exact .inr z
          · exact h.elim
        · exact h.elim
theorem pd_deal {ea eb ec : Expr} {a b c : SE} {j1 j2 j3 : Nat} {p1 p2 p3 pos : Pos} (ha : PEd X W ea a) (hb : PEd X W eb b) (hc : PEd X W ec c) :
    PEd X W (.Dict [some (.Constant (.str "seed") j1 p1), some (.Constant (.str "number") j2 p2), some (.Constant (.str "left") j3 p3)] [ea, eb, ec] pos) (eDeal a b c) := by
  obtain ⟨ta, a1, a2⟩ := ha
  obtain ⟨tb, b1, b2⟩ := hb
  obtain ⟨tc, c1, c2⟩ := hc
  have k1 : ("seed" : Str) = mkS kSeed := by decide +kernel
  have k2 : ("number" : Str) = mkS kNumber := by decide +kernel
  have k3 : ("left" : Str) = mkS kLeft := by decide +kernel
  have r := pe_disp (X := X) (pos := pos) (pps_cons (pe_str (x := "seed") (j := j1) (pos := p1)) a1 (pps_cons (pe_str (x := "number") (j := j2) (pos := p2)) b1 (pps_cons (pe_str (x := "left") (j := j3) (pos := p3)) c1 pps_nil))) rfl rfl (fun z => nomatch z) (by show 3 ≤ 15; decide)
  refine ⟨_, r, ?_⟩
  rw [k1, k2, k3]
  exact sd_deal a2 b2 c2
/-! ### what is left of the dealer's great numbers -/
def eLenL (i : Nat) : SE := fun ρ => match owS i ρ with
  | some (.deal _ _ lf) => .ok (.imm (.int lf.length)) ρ
  | _ => .fail
theorem pd_lenL {k : Nat} (i : Nat) {x : Str} {j : Nat} {p p1 p2 p3 pos : Pos} (C : Ctx X W k) (hm : X.mg "len" = none) (hN : X.N[i]? = some x := by rfl) (hvs : Vis X.env.scope x := by first | exact Or.inl rfl | exact Or.inr (Or.inl rfl) | exact Or.inr (Or.inr rfl))
    (hd : (x == ("__debug__" : Str)) = false := by decide) (hcd : (x == ("__classdict__" : Str)) = false := by decide) (hg : Gl X "len" := by rfl) (hs : starEach (.Subscript (.Name x p1) (.Constant (.str "left") j p2) p3 :: []) X.env = (false, eval (.Subscript (.Name x p1) (.Constant (.str "left") j p2) p3) X.env) :: starEach [] X.env := by rfl)
    (hpl : (backTo pos (starEach [] X.env)).any (·.1) = false := by rfl) : PEd X W (.Call (.Name "len" p) [.Subscript (.Name x p1) (.Constant (.str "left") j p2) p3] [] pos) (eLenL i) := by
  refine ⟨_, pe_callB call_len hg hm PySem.boot_len (pa_cons (pe_dget C.u1 (pe_var hN hvs hd hcd) pe_str (by exact fun _ _ => rfl)) pa_nil hs) (by decide) (by decide) hs hpl, ?_⟩
  intro P σ H F ρ Q E h
  unfold eLenL at h
  split at h
  · rename_i sd nm lf q0
    obtain ⟨hi, v, hv, p, q, ev, s1, s2, hp, hq⟩ := owS_ok E q0
    subst ev
    have k3 : ("left" : Str) = mkS kLeft := by decide +kernel
    refine ⟨.ref p, hv, p, .ref q, rfl, .inl ⟨_, .inr (mkS kLeft), .inl hp, by rw [k3]; rfl, ?_⟩, .ref q, lf.length, rfl, .inl ⟨_, SqL.of hq, by rw [List.length_map]⟩, PostO.doneV E h rfl⟩
    rw [dealK_eq]
    simp [valV, ks_nt, kn_nt]
  · exact h.elim
def ePopL (i : Nat) : SE := fun ρ => match owS i ρ with
  | some (.deal sd nm lf) => match lf.getLast? with
    | some y => match reS i (.deal sd nm lf.dropLast) ρ with
      | some ρ' => .ok (.imm (.int y)) ρ'
      | none => .fail
    | none => .fail
  | _ => .fail
theorem pd_popL {k : Nat} (i : Nat) {x : Str} {j : Nat} {apos cpos p1 p2 p3 : Pos} (C : Ctx X W k) (hN : X.N[i]? = some x := by rfl) (hvs : Vis X.env.scope x := by first | exact Or.inl rfl | exact Or.inr (Or.inl rfl) | exact Or.inr (Or.inr rfl))
    (hd : (x == ("__debug__" : Str)) = false := by decide) (hcd : (x == ("__classdict__" : Str)) = false := by decide)
    (hbase : attributeBase (.Subscript (.Name x p1) (.Constant (.str "left") j p2) p3) "pop" X.env (eval (.Subscript (.Name x p1) (.Constant (.str "left") j p2) p3) X.env) = eval (.Subscript (.Name x p1) (.Constant (.str "left") j p2) p3) X.env := by rfl) (hline : (apos.endLine == cpos.line) = true := by rfl) :
    PEd X W (.Call (.Attribute (.Subscript (.Name x p1) (.Constant (.str "left") j p2) p3) "pop" apos) [] [] cpos) (ePopL i) := by
  refine ⟨_, pe_bm0 PySem.F.plainAttrs_list PySem.F.slot_list_pop PySem.F.type_list_pop (show MtR X "list.pop" rPop from mt_pop) (pe_dget C.u1 (pe_var hN hvs hd hcd) pe_str (by exact fun _ _ => rfl)) hbase hline, ?_⟩
  intro P σ H F ρ Q E h
  unfold ePopL at h
  split at h
  · rename_i sd nm lf q0
    split at h
    · rename_i y hy
      cases e4 : reS i (.deal sd nm lf.dropLast) ρ with
      | none => simp only [e4] at h; exact h.elim
      | some ρ' =>
        simp only [e4] at h
        obtain ⟨hi, v, hv, p, q, ev, s1, s2, hp, hq⟩ := owS_ok E q0
        subst ev
        have k3 : ("left" : Str) = mkS kLeft := by decide +kernel
        have npq : p ≠ q := fun z => by rw [z, hq] at hp; cases hp
        obtain ⟨n1, n2⟩ := ne_mut hq trivial
        refine ⟨.ref p, hv, p, .ref q, rfl, .inl ⟨_, .inr (mkS kLeft), .inl hp, by rw [k3]; rfl, ?_⟩, .inl ⟨rfl, _, SqL.of hq⟩, q, _, .int y, rfl, rfl, hq, ?_, ?_⟩
        · rw [dealK_eq]
          simp [valV, ks_nt, kn_nt]
        · rw [List.length_map, List.getElem?_map, ← List.getLast?_eq_getElem?, hy]; rfl
        · have fr : Frm (PF.Un F) (PF.Un F) H (upd H q (.lst (lf.map V.int).dropLast)) := Frm.upd1 ⟨i, s2⟩ (by rw [hq]; exact fun z => nomatch z) n1 n2
          refine h (.int y) _ F (fun _ => False) (reS_ok E e4 s2 n1 n2 hv ⟨p, q, rfl, s1, s2, by rw [upd_ne npq]; exact hp, ?_⟩) rfl (fun _ _ _ z => z) (addS fr)
          rw [upd_same, List.map_dropLast]
    · exact h.elim
  · exact h.elim
end
end PF

/-! defs of a law's text, its end -/
namespace PF
open PySem PySem.Spec PyProof.Rows
open L2
def runG (m n : Nat) (body : SS) : List Ar → FOut := fun as => if as.length = m then runF n body as else .fail
theorem runG_len {m n : Nat} {body : SS} : ∀ as, runG m n body as ≠ .fail → as.length = m := fun as h => by
  unfold runG at h
  split at h
  · assumption
  · exact absurd rfl h
section
variable {P : Program} {w : World} {K : PySem.W.Frag} {mg : Str → Option Value} {base : Heap}
theorem fn_okG {x qual : Str} {st : Stmt} {f : Addr} {fd : FuncData} {N ps : List Str} {k : Nat} {body : SS} (Fu : Fun K x qual st f fd) (S : FnScope N ps (defScope st))
    (hb : ∀ (X : Cx) (E : XK) (cdv : Value) (A : Around) (outer : List PySem.Env) (s : Shared) (H : Hp), X = cxOf (L2N.CX P w) P w K mg base N qual (defScope st) f cdv A outer s H E → Ctx X (fun cls d _ H => E cls d H) k → PBd X (fun cls d _ H => E cls d H) (defBody st) body) :
    FnOk P w K mg base (L2N.CX P w) (k + 1) f fd ps (fsp K mg ps.length (runG ps.length N.length body)) := (fn_okD Fu S hb).imp fun vs H Q E h => by
  obtain ⟨as, F, h1, h2, h3⟩ := h
  refine ⟨as, F, h1, h2, ?_⟩
  unfold runG at h3
  rw [if_pos h1] at h3
  exact h3
/-- a def of the text, as the top has made it -/
structure Dn (K : PySem.W.Frag) (mg : Str → Option Value) (x : Str) (st : Stmt) (ps : List Str) where
  f : Addr
  fd : FuncData
  F : Fun K x x st f fd
  b : Binds K fd ps []
  g : mg x = some (.ref f)
def lawSp (K : PySem.W.Frag) (g : List Ar → FOut) : Sp := fun vs H Q _ => ∃ as F r bs, as.length = 1 ∧ ArR K H F as vs ∧ g as = .ret r bs ∧ PostF K (fun _ => none) vs Q (fun _ _ _ => False) F H (.ret r bs)
theorem law_imp {k : Nat} {f : Addr} {fd : FuncData} {x : Str} {g : List Ar → FOut} {CX : CXT} (F : FnOk P w K mg base CX k f fd [x] (fsp K mg 1 g)) : FnOk P w K mg base CX k f fd [x] (lawSp K g) := F.imp fun vs H Q E h => by
  obtain ⟨as, F, r, bs, h1, h2, h3, h4⟩ := h
  exact ⟨as, F, h1, h2, by rw [h3]; exact h4⟩
theorem RIs.ints {H : Hp} : ∀ ns : List Int, RIs K H (ns.map D.int) (ns.map V.int)
  | [] => rfl
  | n :: ns => ⟨.int n, ns.map V.int, rfl, rfl, RIs.ints ns⟩
theorem lawSp_go {g : List Ar → FOut} {H : Hp} {a : Addr} {ns : List Int} (hO : L2.Only H) (hS : SqL K H a (ns.map V.int)) (h : ∃ bs, g [.imm (.lst (ns.map .int))] = .ret (.imm (.bl true)) bs) :
    lawSp K g [.ref a] H (fun v _ => v = .bl true) fun _ _ _ => False := by
  obtain ⟨bs, e⟩ := h
  refine ⟨_, fun _ _ => False, _, bs, rfl, ⟨rfl, fun i b q => ?_, fun _ _ _ z => z.elim, fun _ _ z => z.elim⟩, e, fun u H' F' S _ r _ _ => r⟩
  cases i with
  | zero =>
    cases q
    refine ⟨.ref a, rfl, a, _, rfl, ?_, RIs.ints ns⟩
    rcases hS with (h1 | ⟨o, h1⟩) | h1
    · rcases hO a with z | ⟨o, xs, z⟩
      · rw [z] at h1; cases h1
      · rw [z] at h1; cases h1
    · exact .inl ⟨o, h1⟩
    · exact .inr fun H => .inr h1
  | succ i => simp at q
theorem noCX {outer : List PySem.Env} {H : Hp} {s : Shared} {u : Value} {s' : Shared} (h : L2N.CX P w outer H s (fun _ _ _ => False) u s') : False := by
  obtain ⟨_, _, _, _, _, _, _, _, _, _, _, _, h⟩ := h
  exact h
end
end PF

/-! the laws' dealer: its numbers -/
namespace PF
open PySem PySem.Spec PyProof.Rows
open L2
noncomputable def bDrawC : ST := stAnd (tV (eBin eqD (eBin idxD (eVar 0) (eC (.str [110, 117, 109, 98, 101, 114]))) (eC (.int 0)))) (tV (eBin gtD (eLenL 0) (eC (.int 0))))
noncomputable def bDrawB : SS := sPut 0 (eC (.str [110, 117, 109, 98, 101, 114])) (eFrz (ePopL 0))
noncomputable def bDraw : SS :=
    (sSeq (sWhile bDrawC bDrawB)
    (sSeq (sSet 2 (eBin idxD (eVar 0) (eC (.str [110, 117, 109, 98, 101, 114]))))
    (sSeq (sIf (tV (eBin gtD (eVar 2) (eC (.int 0)))) (sSeq (sPut 0 (eC (.str [110, 117, 109, 98, 101, 114])) (eBin fdivD (eVar 2) (eVar 1)))
    (sRet (eBin modD (eVar 2) (eVar 1)))) sPass)
    (sSeq (sSet 3 (eBin modD (eBin plusD (eBin timesD (eBin idxD (eVar 0) (eC (.str [115, 101, 101, 100]))) (eC (.int 48271))) (eC (.int 7919))) (eC (.int 2147483647))))
    (sSeq (sPut 0 (eC (.str [115, 101, 101, 100])) (eBin modD (eBin plusD (eBin timesD (eVar 3) (eC (.int 40692))) (eC (.int 104729))) (eC (.int 2147483399))))
    (sSeq (sSet 4 (eBin modD (eBin timesD (eBin idxD (eVar 0) (eC (.str [115, 101, 101, 100]))) (eBin idxD (eVar 0) (eC (.str [115, 101, 101, 100])))) (eC (.int 2147483563))))
    (sRet (eBin modD (eBin plusD (eBin timesD (eBin modD (eBin timesD (eVar 3) (eVar 3)) (eC (.int 2147483629))) (eC (.int 2147483563))) (eVar 4)) (eVar 1)))))))))
def dealOk : D → Prop
  | .deal _ nm lf => 0 ≤ nm ∧ ∀ x ∈ lf, 0 ≤ x
  | _ => False
theorem plusI (i j : Int) : plusD (.int i) (.int j) = some (.imm (.int (i + j))) := rfl
theorem timesI {i j : Int} (h : (-(2 ^ 64) < i ∧ i < 2 ^ 64) ∨ (-(2 ^ 64) < j ∧ j < 2 ^ 64)) : timesD (.int i) (.int j) = some (.imm (.int (i * j))) := by
  show (if _ then _ else _) = _
  rw [if_pos]
  simpa using h
theorem fdivI {i j : Int} (h : 0 < j) (h2 : j < 2 ^ 8000) : fdivD (.int i) (.int j) = some (.imm (.int (i / j))) := by
  show (if _ then _ else _) = _
  rw [if_pos (by rw [Bool.and_eq_true, decide_eq_true_eq, decide_eq_true_eq]; exact ⟨h, h2⟩)]
theorem modI {i j : Int} (h : 0 < j) : modD (.int i) (.int j) = some (.imm (.int (i % j))) := if_pos h
theorem eqI (i j : Int) : eqD (.int i) (.int j) = some (.imm (.bl (i == j))) := rfl
theorem drawC_ok (sd nm : Int) (lf : List Int) (s1 s2 s3 s4 : Sl) : bDrawC [.par (.deal sd nm lf), s1, s2, s3, s4] = .ok ((nm == 0) && decide (0 < (lf.length : Int))) [.par (.deal sd nm lf), s1, s2, s3, s4] := by
  by_cases h : nm = 0
  · subst h
    simp [bDrawC, stAnd, tV, eBin, eVar, eC, rd, idxD, eqI, eLenL, owS, gtD]
  · simp [bDrawC, stAnd, tV, eBin, eVar, eC, rd, idxD, eqI, h]
theorem drawB_ok (sd nm y : Int) (lf : List Int) (s1 s2 s3 s4 : Sl) (h : lf.getLast? = some y) : bDrawB [.par (.deal sd nm lf), s1, s2, s3, s4] = .nx [.par (.deal sd y lf.dropLast), s1, s2, s3, s4] := by
  simp [bDrawB, sPut, eFrz, frzV, ePopL, owS, reS, eC, rd, putD, kSeed, kNumber, h]
theorem drawW (sd : Int) (s1 s2 s3 s4 : Sl) : ∀ (k : Nat) (nm : Int) (lf : List Int), lf.length ≤ k → dealOk (.deal sd nm lf) → ∃ nm' lf', dealOk (.deal sd nm' lf') ∧ whileL bDrawC bDrawB (k + 1) [.par (.deal sd nm lf), s1, s2, s3, s4] = .nx [.par (.deal sd nm' lf'), s1, s2, s3, s4]
  | 0, nm, lf, hk, ok => by
    have e : lf = [] := List.length_eq_zero_iff.mp (by omega)
    subst e
    refine ⟨nm, [], ok, ?_⟩
    unfold whileL
    rw [drawC_ok]
    simp
  | k + 1, nm, lf, hk, ok => by
    unfold whileL
    rw [drawC_ok]
    by_cases h : (nm == 0 && decide (0 < (lf.length : Int))) = true
    · rw [h]
      dsimp only
      cases hl : lf.getLast? with
      | none =>
        rw [List.getLast?_eq_none_iff] at hl
        subst hl
        simp at h
      | some y =>
        rw [drawB_ok _ _ y _ _ _ _ _ hl]
        dsimp only
        refine drawW sd s1 s2 s3 s4 k y lf.dropLast (by rw [List.length_dropLast]; omega) ⟨ok.2 y (List.mem_of_getLast? hl), fun x hx => ok.2 x (List.dropLast_subset _ hx)⟩
    · have h' : (nm == 0 && decide (0 < (lf.length : Int))) = false := by simpa using h
      rw [h']
      exact ⟨nm, lf, ok, rfl⟩
theorem emod_big {a m b : Int} (h : 0 < m) (hb : m ≤ b) : -b < a % m ∧ a % m < b := by
  have h1 := Int.emod_nonneg a (show m ≠ 0 by omega)
  have h2 := Int.emod_lt_of_pos a h
  omega
/-- what a call comes to -/
def Rt (o : FOut) (P : Vl → List Ar → Prop) : Prop := match o with
  | .ret r bs => P r bs
  | _ => False
theorem Rt.get {o : FOut} {P : Vl → List Ar → Prop} (h : Rt o P) : ∃ r bs, o = .ret r bs ∧ P r bs := by
  cases o with
  | ret r bs => exact ⟨r, bs, rfl, h⟩
  | _ => exact h.elim
/-- a draw of so many -/
theorem draw_rt {d : D} {m : Int} (ok : dealOk d) (hm : 0 < m) (hm2 : m < 2 ^ 8000) : Rt (runG 2 5 bDraw [.mt d, .imm (.int m)]) fun v bs => ∃ r d', v = .imm (.int r) ∧ bs = [.mt d', .imm (.int m)] ∧ 0 ≤ r ∧ r < m ∧ dealOk d' := by
  cases d with
  | deal sd nm lf =>
    obtain ⟨nm1, lf1, ok1, hw⟩ := drawW sd (.imm (.int m)) .non .non .non lf.length nm lf (Nat.le_refl _) ok
    have hs : sWhile bDrawC bDrawB [.par (.deal sd nm lf), .imm (.int m), .non, .non, .non] = .nx [.par (.deal sd nm1 lf1), .imm (.int m), .non, .non, .non] := by
      rw [sWhile_eq (n := lf.length + 1) (by rw [hw]; exact fun z => nomatch z), hw]
    have m1 : ∀ a : Int, 0 ≤ a % m ∧ a % m < m := fun a => ⟨Int.emod_nonneg a (by omega), Int.emod_lt_of_pos a hm⟩
    have st : startE 5 [.mt (.deal sd nm lf), .imm (.int m)] = [.par (.deal sd nm lf), .imm (.int m), .non, .non, .non] := rfl
    by_cases h : 0 < nm1
    · simp [Rt, runG, runF, st, bDraw, sSeq, hs, sSet, putS, eBin, eVar, eC, rd, idxD, sIf, tV, gtD, h, sPut, owS, reS, fdivI hm hm2, putD, kSeed, kNumber, sRet, modI hm, retV, backs]
      exact ⟨(m1 _).1, (m1 _).2, Int.ediv_nonneg ok1.1 (by omega), ok1.2⟩
    · have c1 : (0 : Int) < 2147483647 := by decide
      have c2 : (0 : Int) < 2147483399 := by decide
      have c3 : (0 : Int) < 2147483563 := by decide
      have c4 : (0 : Int) < 2147483629 := by decide
      have k1 : timesD (.int sd) (.int 48271) = some (.imm (.int (sd * 48271))) := timesI (.inr (by decide))
      have k2 : ∀ a : Int, timesD (.int a) (.int 40692) = some (.imm (.int (a * 40692))) := fun a => timesI (.inr (by decide))
      have k3 : ∀ a : Int, timesD (.int (a % 2147483399)) (.int (a % 2147483399)) = some (.imm (.int (a % 2147483399 * (a % 2147483399)))) := fun a => timesI (.inl (emod_big c2 (by decide)))
      have k4 : ∀ a : Int, timesD (.int (a % 2147483647)) (.int (a % 2147483647)) = some (.imm (.int (a % 2147483647 * (a % 2147483647)))) := fun a => timesI (.inl (emod_big c1 (by decide)))
      have k5 : ∀ a : Int, timesD (.int a) (.int 2147483563) = some (.imm (.int (a * 2147483563))) := fun a => timesI (.inr (by decide))
      simp [Rt, runG, runF, st, bDraw, sSeq, hs, sSet, putS, eBin, eVar, eC, rd, idxD, sIf, sPass, tV, gtD, h, sPut, owS, reS, putD, kSeed, kNumber, sRet, modI hm, modI c1, modI c2, modI c3, modI c4, k1, k2, k3, k4, k5, plusI, retV, backs]
      exact ⟨(m1 _).1, (m1 _).2, ok1⟩
  | _ => exact ok.elim
theorem draw_ok {d : D} {m : Int} (ok : dealOk d) (hm : 0 < m) (hm2 : m < 2 ^ 8000) : ∃ r d', 0 ≤ r ∧ r < m ∧ dealOk d' ∧ runG 2 5 bDraw [.mt d, .imm (.int m)] = .ret (.imm (.int r)) [.mt d', .imm (.int m)] := by
  obtain ⟨v, bs, e, r, d', rfl, rfl, h⟩ := (draw_rt ok hm hm2).get
  exact ⟨r, d', h.1, h.2.1, h.2.2, e⟩
end PF

/-! loops, gone through -/
namespace PF
open PySem PySem.Spec PyProof.Rows
open L2
/-- what a comprehension makes: an invariant over (turns, made, slots) -/
theorem lcL_go {t : Tg} {c : ST} {e : SE} (I : Nat → List D → Env → Prop) : ∀ (l : List D) (k : Nat) (acc : List D) (ρ : Env), I k acc ρ →
    (∀ j d, l[j]? = some d → ∀ acc ρ, I (k + j) acc ρ → ∃ ρ1, setT t d ρ = some ρ1 ∧ ∃ b ρ2, c ρ1 = .ok b ρ2 ∧ (b = true → acc.length < big ∧ ∃ x ρ3, e ρ2 = .ok (.imm x) ρ3 ∧ I (k + j + 1) (acc ++ [x]) (wipeE ρ3 (tgS t))) ∧ (b = false → I (k + j + 1) acc (wipeE ρ2 (tgS t)))) →
    ∃ acc' ρ', lcL t c e l acc ρ = .ok acc' ρ' ∧ I (k + l.length) acc' ρ'
  | [], k, acc, ρ, h, _ => ⟨acc, ρ, rfl, h⟩
  | d :: l, k, acc, ρ, h, st => by
    obtain ⟨ρ1, e1, b, ρ2, e2, ht, hf⟩ := st 0 d rfl acc ρ h
    have nx : ∀ acc ρ, I (k + 1) acc ρ → ∃ acc' ρ', lcL t c e l acc ρ = .ok acc' ρ' ∧ I (k + (d :: l).length) acc' ρ' := fun acc ρ h => by
      have e9 : k + (d :: l).length = (k + 1) + l.length := by rw [List.length_cons]; omega
      rw [e9]
      refine lcL_go I l (k + 1) acc ρ h fun j d' hd acc ρ h => ?_
      have e8 : k + 1 + j = k + (j + 1) := by omega
      rw [e8] at h ⊢
      exact st (j + 1) d' (by simpa using hd) acc ρ h
    unfold lcL
    rw [e1]
    dsimp only
    rw [e2, Out.bind_ok]
    cases b with
    | true =>
      obtain ⟨hl, x, ρ3, e3, h3⟩ := ht rfl
      rw [if_pos rfl, e3, Out.bind_ok]
      dsimp only
      rw [if_pos hl]
      exact nx _ _ h3
    | false =>
      rw [if_neg (by decide)]
      exact nx _ _ (hf rfl)
/-- what is wished of a statement's outcome -/
structure Po where
  nx : Env → Prop
  rt : Vl → Env → Prop
  exc : Xc → Env → Prop := fun _ _ => False
def Ws (o : SOut) (p : Po) : Prop := match o with
  | .nx ρ => p.nx ρ
  | .rt v ρ => p.rt v ρ
  | .exc x ρ => p.exc x ρ
  | _ => False
theorem forL_go {t : Tg} {body : SS} (p : Po) (I : Nat → Env → Prop) : ∀ (l : List D) (k : Nat) (ρ : Env), I k ρ →
    (∀ j d, l[j]? = some d → ∀ ρ, I (k + j) ρ → ∃ ρ1, setT t d ρ = some ρ1 ∧ (match body ρ1 with
      | .nx ρ2 => I (k + j + 1) ρ2
      | .ct ρ2 => I (k + j + 1) ρ2
      | .bk ρ2 => p.nx ρ2
      | .rt v ρ2 => p.rt v ρ2
      | .exc x ρ2 => p.exc x ρ2
      | .fail => False)) → (∀ ρ, I (k + l.length) ρ → p.nx ρ) → Ws (forL t body l ρ) p
  | [], k, ρ, h, _, fin => fin ρ h
  | d :: l, k, ρ, h, st, fin => by
    obtain ⟨ρ1, e1, hb⟩ := st 0 d rfl ρ h
    have nx : ∀ ρ, I (k + 1) ρ → Ws (forL t body l ρ) p := fun ρ h => by
      refine forL_go p I l (k + 1) ρ h (fun j d' hd ρ h => ?_) fun ρ h => fin ρ ?_
      · have e8 : k + 1 + j = k + (j + 1) := by omega
        rw [e8] at h ⊢
        exact st (j + 1) d' (by simpa using hd) ρ h
      · have e9 : k + (d :: l).length = (k + 1) + l.length := by rw [List.length_cons]; omega
        rw [e9]; exact h
    unfold forL
    rw [e1]
    dsimp only
    cases eb : body ρ1 with
    | nx ρ2 => rw [eb] at hb; exact nx _ hb
    | ct ρ2 => rw [eb] at hb; exact nx _ hb
    | bk ρ2 => rw [eb] at hb; exact hb
    | rt v ρ2 => rw [eb] at hb; exact hb
    | exc x ρ2 => rw [eb] at hb; exact hb
    | fail => rw [eb] at hb; exact hb.elim
theorem Ws.nxt {o : SOut} {p : Po} (h : Ws o p) (h1 : ∀ v ρ, ¬ p.rt v ρ) (h2 : ∀ x ρ, ¬ p.exc x ρ) : ∃ ρ, o = .nx ρ ∧ p.nx ρ := by
  cases o with
  | nx ρ => exact ⟨ρ, rfl, h⟩
  | rt v ρ => exact (h1 _ _ h).elim
  | exc x ρ => exact (h2 _ _ h).elim
  | _ => exact h.elim
/-- a loop that only goes on -/
theorem forL_nx {t : Tg} {body : SS} (I : Nat → Env → Prop) {l : List D} {ρ : Env} (h0 : I 0 ρ) (st : ∀ j d, l[j]? = some d → ∀ ρ, I j ρ → ∃ ρ1 ρ2, setT t d ρ = some ρ1 ∧ (body ρ1 = .nx ρ2 ∨ body ρ1 = .ct ρ2) ∧ I (j + 1) ρ2) : ∃ ρ', forL t body l ρ = .nx ρ' ∧ I l.length ρ' := by
  have := forL_go (t := t) (body := body) ⟨I l.length, fun _ _ => False, fun _ _ => False⟩ I l 0 ρ h0 (fun j d hd ρ h => by
    rw [Nat.zero_add] at h
    obtain ⟨ρ1, ρ2, e1, e2, h2⟩ := st j d hd ρ h
    refine ⟨ρ1, e1, ?_⟩
    rw [Nat.zero_add]
    rcases e2 with e2 | e2 <;> (rw [e2]; exact h2)) (fun ρ h => by rw [Nat.zero_add] at h; exact h)
  exact this.nxt (fun _ _ z => z) (fun _ _ z => z)
theorem ints_mapM : ∀ js : List Int, (js.map D.int).mapM (fun d => match d with
      | .int i => some i
      | _ => none) = some js
  | [] => rfl
  | j :: js => by
    rw [List.map_cons, List.mapM_cons, ints_mapM js]; rfl
theorem eDeal_ok {a b c : SE} {ρ ρ1 ρ2 ρ3 : Env} {sd nm : Int} {js : List Int} (h1 : a ρ = .ok (.imm (.int sd)) ρ1) (h2 : b ρ1 = .ok (.imm (.int nm)) ρ2) (h3 : c ρ2 = .ok (.own (.lst (js.map .int))) ρ3) : eDeal a b c ρ = .ok (.own (.deal sd nm js)) ρ3 := by
  unfold eDeal
  rw [h1, Out.bind_ok, h2, Out.bind_ok, h3, Out.bind_ok]
  exact congrArg (fun o : Option (List Int) => (match o with
    | some lf => Out.ok (Vl.own (D.deal sd nm lf)) ρ3
    | none => Out.fail : Out Vl)) (ints_mapM js)
theorem sSeq_nx {a b : SS} {ρ ρ1 : Env} (h : a ρ = .nx ρ1) : sSeq a b ρ = b ρ1 := by
  unfold sSeq
  rw [h]
def bDealA : SE := eLc (iOf (eFrz (eSlc (eVar 0) (.at (eVar 1)) (.at (eC (.int 63)))))) (.nm 3) stYes (eBin maxD (eVar 3) (eBin subD (eC (.int 0)) (eVar 3)))
def bDealF : SS := sSet 4 (eBin modD (eBin plusD (eBin timesD (eVar 4) (eC (.int 48271))) (eBin modD (eVar 3) (eC (.int 2147483629)))) (eC (.int 2147483647)))
def bDealB : SE := eLc (iOf (eFrz (eVar 2))) (.nm 3) (tV (eBin geD (eVar 3) (eBin powD (eC (.int 10)) (eC (.int 18))))) (eFrz (eVar 3))
def bDeal : SS :=
    (sSeq (sSet 2 bDealA)
    (sSeq (sSet 4 (eBin plusD (eC (.int 7919)) (eVar 1)))
    (sSeq (sFor (iOf (eFrz (eVar 2))) (.nm 3) bDealF)
    (sRet (eDeal (eVar 4) (eC (.int 0)) (eUn lrevD bDealB))))))
theorem cut_ints (ns : List Int) (lo hi : Option Int) : ∃ ms : List Int, cutD (ns.map D.int) lo hi = ms.map D.int ∧ ms.length ≤ ns.length := by
  refine ⟨cutD ns lo hi, ?_, ?_⟩
  · unfold cutD
    rw [List.length_map, List.map_take, List.map_drop]
  · unfold cutD
    rw [List.length_take, List.length_drop]; omega
theorem deal_ok {ns : List Int} {base : Int} (hn : ns.length ≤ 1000) : ∃ d, dealOk d ∧ runG 2 5 bDeal [.imm (.lst (ns.map .int)), .imm (.int base)] = .ret (.own d) [.imm (.lst (ns.map .int)), .imm (.int base)] := by
  obtain ⟨ms, ec, hm⟩ := cut_ints ns (some base) (some 63)
  have st : startE 5 [.imm (.lst (ns.map .int)), .imm (.int base)] = [.imm (.lst (ns.map .int)), .imm (.int base), .non, .non, .non] := rfl
  have hbig : (1000 : Nat) < big := by decide
  -- the absolute numbers
  have hA : ∃ js : List Int, (∀ x ∈ js, 0 ≤ x) ∧ bDealA [.imm (.lst (ns.map .int)), .imm (.int base), .non, .non, .non] = .ok (.own (.lst (js.map .int))) [.imm (.lst (ns.map .int)), .imm (.int base), .non, .non, .non] ∧ js.length ≤ ms.length := by
    obtain ⟨acc, ρ', e, js, ea, ep, h1, h2⟩ := lcL_go (t := .nm 3) (c := stYes) (e := eBin maxD (eVar 3) (eBin subD (eC (.int 0)) (eVar 3))) (fun k acc ρ => ∃ js : List Int, acc = js.map D.int ∧ ρ = [.imm (.lst (ns.map .int)), .imm (.int base), .non, .non, .non] ∧ (∀ x ∈ js, 0 ≤ x) ∧ js.length = k)
      (ms.map D.int) 0 [] [.imm (.lst (ns.map .int)), .imm (.int base), .non, .non, .non] ⟨[], rfl, rfl, by simp, rfl⟩ (fun j d hd acc ρ h => by
        obtain ⟨js, rfl, rfl, h1, h2⟩ := h
        rw [List.getElem?_map] at hd
        cases q : ms[j]? with
        | none => rw [q] at hd; cases hd
        | some m =>
          rw [q] at hd
          cases hd
          have hj : j < ms.length := lt_of_get q
          refine ⟨_, rfl, true, _, rfl, fun _ => ⟨by rw [List.length_map]; omega, .int (if 0 - m > m then 0 - m else m), [.imm (.lst (ns.map .int)), .imm (.int base), .non, .imm (.int m), .non], by simp [eBin, eVar, rd, eC, subD, maxD], js ++ [if 0 - m > m then 0 - m else m], by simp, rfl, ?_, by rw [List.length_append, h2]; simp⟩, fun z => nomatch z⟩
          intro x hx
          rcases List.mem_append.mp hx with hx | hx
          · exact h1 x hx
          · rw [List.mem_singleton] at hx
            subst hx
            split <;> omega)
    subst ea ep
    refine ⟨js, h1, ?_, ?_⟩
    · simp [bDealA, eLc, iOf, eFrz, frzV, eSlc, eVar, prt, eC, rd, slcD, ec, fzb, itemsD, immAt, tgS, wipeE, e, restE]
    · rw [List.length_map] at h2; omega
  obtain ⟨js, hjs, eA, hl⟩ := hA
  -- the seed
  have hF : ∃ sd last, forL (.nm 3) bDealF (js.map .int) [.imm (.lst (ns.map .int)), .imm (.int base), .imm (.lst (js.map .int)), .non, .imm (.int (7919 + base))] = .nx [.imm (.lst (ns.map .int)), .imm (.int base), .imm (.lst (js.map .int)), last, .imm (.int sd)] ∧ (last = .non ∨ ∃ d, last = .imm d) := by
    obtain ⟨ρ', e, sd, last, er, hlast⟩ := forL_nx (t := .nm 3) (body := bDealF) (l := js.map .int) (fun k ρ => ∃ sd last, ρ = [.imm (.lst (ns.map .int)), .imm (.int base), .imm (.lst (js.map .int)), last, .imm (.int sd)] ∧ (last = .non ∨ ∃ d, last = .imm d)) ⟨7919 + base, .non, rfl, .inl rfl⟩ (fun j d hd ρ h => by
      obtain ⟨sd, last, rfl, hlast⟩ := h
      rw [List.getElem?_map] at hd
      cases q : js[j]? with
      | none => rw [q] at hd; cases hd
      | some m =>
        rw [q] at hd
        cases hd
        have es : setT (.nm 3) (.int m) [.imm (.lst (ns.map .int)), .imm (.int base), .imm (.lst (js.map .int)), last, .imm (.int sd)] = some [.imm (.lst (ns.map .int)), .imm (.int base), .imm (.lst (js.map .int)), .imm (.int m), .imm (.int sd)] := by
          rcases hlast with rfl | ⟨d, rfl⟩ <;> rfl
        refine ⟨_, [.imm (.lst (ns.map .int)), .imm (.int base), .imm (.lst (js.map .int)), .imm (.int m), .imm (.int ((sd * 48271 + m % 2147483629) % 2147483647))], es, .inl ?_, _, .imm (.int m), rfl, .inr ⟨_, rfl⟩⟩
        have c1 : (0 : Int) < 2147483647 := by decide
        have c2 : (0 : Int) < 2147483629 := by decide
        have k1 : timesD (.int sd) (.int 48271) = some (.imm (.int (sd * 48271))) := timesI (.inr (by decide))
        unfold bDealF sSet
        simp only [eBin, eVar, List.getElem?_cons_succ, List.getElem?_cons_zero, Out.bind_ok, eC, rd, k1, modI c1, modI c2, plusI, putS]
        rfl)
    subst er
    exact ⟨sd, last, e, hlast⟩
  obtain ⟨sd, last, eF, hlast⟩ := hF
  -- the great ones
  have hB : ∃ gs : List Int, (∀ x ∈ gs, 0 ≤ x) ∧ bDealB [.imm (.lst (ns.map .int)), .imm (.int base), .imm (.lst (js.map .int)), last, .imm (.int sd)] = .ok (.own (.lst (gs.map .int))) [.imm (.lst (ns.map .int)), .imm (.int base), .imm (.lst (js.map .int)), last, .imm (.int sd)] := by
    obtain ⟨acc, ρ', e, gs, ea, ep, h1, h2⟩ := lcL_go (t := .nm 3) (c := tV (eBin geD (eVar 3) (eBin powD (eC (.int 10)) (eC (.int 18))))) (e := eFrz (eVar 3)) (fun k acc ρ => ∃ gs : List Int, acc = gs.map D.int ∧ ρ = [.imm (.lst (ns.map .int)), .imm (.int base), .imm (.lst (js.map .int)), .non, .imm (.int sd)] ∧ (∀ x ∈ gs, 0 ≤ x) ∧ gs.length ≤ k)
      (js.map D.int) 0 [] [.imm (.lst (ns.map .int)), .imm (.int base), .imm (.lst (js.map .int)), .non, .imm (.int sd)] ⟨[], rfl, rfl, by simp, Nat.le_refl _⟩ (fun j d hd acc ρ h => by
        obtain ⟨gs, rfl, rfl, h1, h2⟩ := h
        rw [List.getElem?_map] at hd
        cases q : js[j]? with
        | none => rw [q] at hd; cases hd
        | some m =>
          rw [q] at hd
          cases hd
          have hj : j < js.length := lt_of_get q
          have hm0 : 0 ≤ m := hjs m (List.mem_of_getElem? q)
          refine ⟨_, rfl, decide (10 ^ 18 ≤ m), [.imm (.lst (ns.map .int)), .imm (.int base), .imm (.lst (js.map .int)), .imm (.int m), .imm (.int sd)], ?_, fun _ => ⟨by rw [List.length_map]; omega, .int m, [.imm (.lst (ns.map .int)), .imm (.int base), .imm (.lst (js.map .int)), .imm (.int m), .imm (.int sd)], rfl, gs ++ [m], by simp, rfl, ?_, by rw [List.length_append]; simp; omega⟩, fun _ => ⟨gs, rfl, rfl, h1, by omega⟩⟩
          · have hp : powD (.int 10) (.int 18) = some (.imm (.int (10 ^ 18))) := rfl
            simp only [List.set, tV, eBin, eVar, List.getElem?_cons_succ, List.getElem?_cons_zero, Out.bind_ok, eC, rd, hp, geD]
          · intro x hx
            rcases List.mem_append.mp hx with hx | hx
            · exact h1 x hx
            · rw [List.mem_singleton] at hx
              rw [hx]; exact hm0)
    subst ea ep
    refine ⟨gs, h1, ?_⟩
    rcases hlast with rfl | ⟨d, rfl⟩ <;> simp [bDealB, eLc, iOf, eFrz, frzV, eVar, itemsD, immAt, tgS, wipeE, e, restE]
  obtain ⟨gs, hgs, eB⟩ := hB
  refine ⟨.deal sd 0 gs.reverse, ⟨Int.le_refl _, fun x hx => hgs x (List.mem_reverse.mp hx)⟩, ?_⟩
  have eD : eDeal (eVar 4) (eC (.int 0)) (eUn lrevD bDealB) [.imm (.lst (ns.map .int)), .imm (.int base), .imm (.lst (js.map .int)), last, .imm (.int sd)] = .ok (.own (.deal sd 0 gs.reverse)) [.imm (.lst (ns.map .int)), .imm (.int base), .imm (.lst (js.map .int)), last, .imm (.int sd)] := by
    refine eDeal_ok rfl rfl (ρ3 := [.imm (.lst (ns.map .int)), .imm (.int base), .imm (.lst (js.map .int)), last, .imm (.int sd)]) ?_
    unfold eUn
    rw [eB, Out.bind_ok]
    simp only [rd, lrevD, List.map_reverse]
  have e1 : (sSeq (sSet 4 (eBin plusD (eC (.int 7919)) (eVar 1))) (sSeq (sFor (iOf (eFrz (eVar 2))) (.nm 3) bDealF) (sRet (eDeal (eVar 4) (eC (.int 0)) (eUn lrevD bDealB))))) [.imm (.lst (ns.map .int)), .imm (.int base), .own (.lst (js.map .int)), .non, .non] =
      .rt (.own (.deal sd 0 gs.reverse)) [.imm (.lst (ns.map .int)), .imm (.int base), .imm (.lst (js.map .int)), last, .imm (.int sd)] := by
    simp [sSeq, sSet, eBin, eC, eVar, rd, plusI, putS, sFor, iOf, eFrz, frzV, fzb, itemsD, eF, sRet, eD]
  have e2 : bDeal [.imm (.lst (ns.map .int)), .imm (.int base), .non, .non, .non] = .rt (.own (.deal sd 0 gs.reverse)) [.imm (.lst (ns.map .int)), .imm (.int base), .imm (.lst (js.map .int)), last, .imm (.int sd)] := by
    refine (sSeq_nx (ρ1 := [.imm (.lst (ns.map .int)), .imm (.int base), .own (.lst (js.map .int)), .non, .non]) ?_).trans e1
    unfold sSet
    rw [eA]
    rfl
  show (match bDeal (startE 5 [.imm (.lst (ns.map .int)), .imm (.int base)]) with
    | .nx ρ => _
    | .rt v ρ => _
    | .exc x ρ => _
    | _ => _) = _
  rw [st, e2]
  rfl
end PF

/-! draws in their places; texts by length -/
namespace PF
open PySem PySem.Spec PyProof.Rows
open L2
theorem idx_str {s : List Nat} {r : Int} (h0 : 0 ≤ r) (h1 : r < s.length) (hb : s.length ≤ big) : ∃ c, c ∈ s ∧ s[r.toNat]? = some c ∧ idxD (.str s) (.int r) = some (.imm (.str [c])) := by
  have hl : r.toNat < s.length := by omega
  refine ⟨s[r.toNat], List.getElem_mem hl, List.getElem?_eq_getElem hl, ?_⟩
  show (if _ then _ else _) = _
  rw [if_pos hb]
  have : L2.atI s r = some s[r.toNat] := by
    have e := atI_nat (xs := s) (j := r.toNat) (List.getElem?_eq_getElem hl)
    rw [Int.toNat_of_nonneg h0] at e
    exact e
  rw [this]; rfl
end PF

/-! the pure functions, step by step: rows for simp only -/
namespace PF
open PySem PySem.Spec PyProof.Rows
open L2
section
variable {α β : Type} (i k n m : Nat) (ρ ρ1 : Env) (d x y : D) (v u : Vl) (a b c e : SE) (s t : ST) (p q : SS) (f : D → D → Option Vl) (g : D → Option Vl)
/-! expressions -/
def varK (i : Nat) (ρ : Env) : Option Sl → Out Vl
  | some (.imm d) => .ok (.imm d) ρ
  | some (.own _) => .ok (.ref i) ρ
  | some (.par _) => .ok (.ref i) ρ
  | _ => .fail
theorem x_var : eVar i ρ = varK i ρ ρ[i]? := by unfold eVar; rcases ρ[i]? with _ | _ | _ | _ | _ <;> rfl
theorem x_vi : varK i ρ (some (.imm d)) = .ok (.imm d) ρ := rfl
theorem x_vo : varK i ρ (some (.own d)) = .ok (.ref i) ρ := rfl
theorem x_vp : varK i ρ (some (.par d)) = .ok (.ref i) ρ := rfl
theorem x_c : eC d ρ = .ok (.imm d) ρ := rfl
def rdK : Option Sl → Option D
  | some (.imm d) => some d
  | some (.own d) => some d
  | some (.par d) => some d
  | _ => none
theorem x_rdi : rd ρ (.imm d) = some d := rfl
theorem x_rdo : rd ρ (.own d) = some d := rfl
theorem x_rdr : rd ρ (.ref i) = rdK ρ[i]? := by unfold rd; dsimp only; rcases ρ[i]? with _ | _ | _ | _ | _ <;> rfl
theorem x_rki : rdK (some (.imm d)) = some d := rfl
theorem x_rko : rdK (some (.own d)) = some d := rfl
theorem x_rkp : rdK (some (.par d)) = some d := rfl
def optK (ρ : Env) : Option Vl → Out Vl
  | some v => .ok v ρ
  | none => .fail
theorem x_opt : optK ρ (some v) = .ok v ρ := rfl
def binK3 (f : D → D → Option Vl) (ρ : Env) : Option D → Option D → Out Vl
  | some x, some y => optK ρ (f x y)
  | _, _ => .fail
def binK2 (f : D → D → Option Vl) (va : Vl) : Vl → Env → Out Vl := fun vb ρ => binK3 f ρ (rd ρ va) (rd ρ vb)
def binK (f : D → D → Option Vl) (b : SE) : Vl → Env → Out Vl := fun va ρ => (b ρ).bind (binK2 f va)
theorem x_bin : eBin f a b ρ = (a ρ).bind (binK f b) := by
  unfold eBin
  congr 1
theorem x_bin1 : binK f b v ρ = (b ρ).bind (binK2 f v) := rfl
theorem x_bin2 : binK2 f v u ρ = binK3 f ρ (rd ρ v) (rd ρ u) := rfl
theorem x_bin3 : binK3 f ρ (some x) (some y) = optK ρ (f x y) := rfl
def unK2 (g : D → Option Vl) (ρ : Env) : Option D → Out Vl
  | some x => optK ρ (g x)
  | none => .fail
def unK (g : D → Option Vl) : Vl → Env → Out Vl := fun va ρ => unK2 g ρ (rd ρ va)
theorem x_un : eUn g a ρ = (a ρ).bind (unK g) := by
  unfold eUn
  congr 1
  funext va ρ1
  show _ = unK2 g ρ1 (rd ρ1 va)
  cases rd ρ1 va <;> try rfl
theorem x_un1 : unK g v ρ = unK2 g ρ (rd ρ v) := rfl
theorem x_un2 : unK2 g ρ (some x) = optK ρ (g x) := rfl
def frzK (i : Nat) (ρ : Env) : Option Sl → Out Vl
  | some (.imm d) => .ok (.imm d) ρ
  | some (.own d) => if fzb d then .ok (.imm d) (ρ.set i (.imm d)) else .fail
  | _ => .fail
theorem x_frz : eFrz a ρ = (a ρ).bind frzV := rfl
theorem x_fzi : frzV (.imm d) ρ = .ok (.imm d) ρ := rfl
theorem x_fzo : frzV (.own d) ρ = if fzb d then .ok (.imm d) ρ else .fail := rfl
theorem x_fzr : frzV (.ref i) ρ = frzK i ρ ρ[i]? := by unfold frzV; dsimp only; rcases ρ[i]? with _ | _ | _ | _ | _ <;> rfl
theorem x_fki : frzK i ρ (some (.imm d)) = .ok (.imm d) ρ := rfl
theorem x_fko : frzK i ρ (some (.own d)) = if fzb d then .ok (.imm d) (ρ.set i (.imm d)) else .fail := rfl
theorem x_fzl (l : List D) : fzb (.lst l) = true := rfl
theorem x_fzd (l : List (DK × D)) : fzb (.dct l) = true := rfl
theorem x_fzt (l : List (List DK × D)) : fzb (.dcT l) = true := rfl
def argK2 (f : List D → Option Vl) (ρ : Env) : Option (List D) → Out Vl
  | some l => optK ρ (f l)
  | none => .fail
def argK (f : List D → Option Vl) : List Vl → Env → Out Vl := fun vs ρ => argK2 f ρ (imms vs)
theorem x_args (h : List D → Option Vl) (w : SA) : eArgs h w ρ = (w ρ).bind (argK h) := by
  unfold eArgs
  congr 1
theorem x_args1 (h : List D → Option Vl) (vs : List Vl) : argK h vs ρ = argK2 h ρ (imms vs) := rfl
theorem x_args2 (h : List D → Option Vl) (l : List D) : argK2 h ρ (some l) = optK ρ (h l) := rfl
theorem x_im0 : imms [] = some [] := rfl
theorem x_im1 (vs : List Vl) : imms (.imm d :: vs) = (imms vs).map (d :: ·) := rfl
def consK2 (v : Vl) : List Vl → Env → Out (List Vl) := fun vs ρ => .ok (v :: vs) ρ
def consK (w : SA) : Vl → Env → Out (List Vl) := fun v ρ => match v with
  | .own _ => .fail
  | v => (w ρ).bind (consK2 v)
theorem x_nil : aNil ρ = .ok [] ρ := rfl
theorem x_cons (w : SA) : aCons a w ρ = (a ρ).bind (consK w) := by
  unfold aCons
  congr 1
theorem x_cons1 (w : SA) : consK w (.imm d) ρ = (w ρ).bind (consK2 (.imm d)) := rfl
theorem x_cons2 (w : SA) : consK w (.ref i) ρ = (w ρ).bind (consK2 (.ref i)) := rfl
theorem x_cons3 (vs : List Vl) : consK2 v vs ρ = .ok (v :: vs) ρ := rfl
def callK3 (vs : List Vl) (ρ : Env) : FOut → Out Vl
  | .ret r bs => .ok r (wbs vs bs 0 ρ)
  | .exc x bs => .exc x (wbs vs bs 0 ρ)
  | .fail => .fail
def callK2 (g : List Ar → FOut) (vs : List Vl) (ρ : Env) : Option (List Ar) → Out Vl
  | none => .fail
  | some as => if ndB (refsL vs) then callK3 vs ρ (g as) else .fail
def callK (g : List Ar → FOut) : List Vl → Env → Out Vl := fun vs ρ => callK2 g vs ρ (toAr ρ vs)
theorem x_call (h : List Ar → FOut) (w : SA) : eCall h w ρ = (w ρ).bind (callK h) := by
  unfold eCall
  congr 1
theorem x_call1 (h : List Ar → FOut) (vs : List Vl) : callK h vs ρ = callK2 h vs ρ (toAr ρ vs) := rfl
theorem x_call2 (h : List Ar → FOut) (vs : List Vl) (as : List Ar) (nd : ndB (refsL vs) = true) : callK2 h vs ρ (some as) = callK3 vs ρ (h as) := if_pos nd
theorem x_call3 (vs : List Vl) (bs : List Ar) : callK3 vs ρ (.ret v bs) = .ok v (wbs vs bs 0 ρ) := rfl
theorem x_call4 (vs : List Vl) (bs : List Ar) (z : Xc) : callK3 vs ρ (.exc z bs) = .exc z (wbs vs bs 0 ρ) := rfl
def toK2 (r : Option (List Ar)) : Option Sl → Option (List Ar)
  | some (.imm d) => r.map (Ar.imm d :: ·)
  | some (.own d) => r.map (Ar.mt d :: ·)
  | some (.par d) => r.map (Ar.mt d :: ·)
  | _ => none
theorem x_ta0 : toAr ρ [] = some [] := rfl
theorem x_ta1 (vs : List Vl) : toAr ρ (.imm d :: vs) = (toAr ρ vs).map (Ar.imm d :: ·) := rfl
theorem x_ta2 (vs : List Vl) : toAr ρ (.ref i :: vs) = toK2 (toAr ρ vs) ρ[i]? := by
  rw [toAr]
  rcases ρ[i]? with _ | _ | _ | _ | _ <;> rfl
theorem x_tk1 (r : Option (List Ar)) : toK2 r (some (.imm d)) = r.map (Ar.imm d :: ·) := rfl
theorem x_tk2 (r : Option (List Ar)) : toK2 r (some (.own d)) = r.map (Ar.mt d :: ·) := rfl
theorem x_tk3 (r : Option (List Ar)) : toK2 r (some (.par d)) = r.map (Ar.mt d :: ·) := rfl
theorem x_rf0 : refsL [] = [] := rfl
theorem x_rf1 (vs : List Vl) : refsL (.imm d :: vs) = refsL vs := rfl
theorem x_rf2 (vs : List Vl) : refsL (.ref i :: vs) = i :: refsL vs := rfl
theorem x_nd0 : ndB [] = true := rfl
theorem x_nd1 : ndB [i] = true := rfl
theorem x_nd2 : ndB [i, k] = (k != i) := by simp [ndB]
theorem x_wb0 (vs : List Vl) (bs : List Ar) : wbs vs bs i [] = [] := rfl
theorem x_wb1 (vs : List Vl) (bs : List Ar) (z : Sl) : wbs vs bs i (z :: ρ) = wb1 bs z (posOf i vs 0) :: wbs vs bs (i + 1) ρ := rfl
theorem x_po0 : posOf i [] k = none := rfl
theorem x_po1 (vs : List Vl) : posOf i (.imm d :: vs) k = posOf i vs (k + 1) := rfl
theorem x_po2 (vs : List Vl) : posOf i (.ref n :: vs) k = if n = i then some k else posOf i vs (k + 1) := rfl
theorem x_w0 (bs : List Ar) (z : Sl) : wb1 bs z none = z := by cases z <;> rfl
theorem x_w1 (bs : List Ar) : wb1 bs (.imm d) (some k) = .imm d := rfl
def wbK (own : Bool) : Option Ar → Sl
  | some (.mt d) => if own then .own d else .par d
  | _ => .non
theorem x_w2 (bs : List Ar) : wb1 bs (.own d) (some k) = wbK true bs[k]? := by
  unfold wb1 wbK
  dsimp only
  rcases bs[k]? with _ | _ | _ <;> rfl
theorem x_w3 (bs : List Ar) : wb1 bs (.par d) (some k) = wbK false bs[k]? := by
  unfold wb1 wbK
  dsimp only
  rcases bs[k]? with _ | _ | _ <;> rfl
theorem x_wk1 : wbK true (some (.mt d)) = .own d := rfl
theorem x_wk2 : wbK false (some (.mt d)) = .par d := rfl
/-! tests -/
def tVK : Vl → Env → Out Bool := fun v ρ => match v with
  | .imm (.bl b) => .ok b ρ
  | _ => .fail
theorem x_tV : tV a ρ = (a ρ).bind tVK := rfl
theorem x_tV1 (z : Bool) : tVK (.imm (.bl z)) ρ = .ok z ρ := rfl
def trK3 (ρ : Env) : Option Bool → Out Bool
  | some b => .ok b ρ
  | none => .fail
def trK2 (ρ : Env) : Option D → Out Bool
  | some d => trK3 ρ (truD d)
  | none => .fail
def trK : Vl → Env → Out Bool := fun v ρ => trK2 ρ (rd ρ v)
theorem x_tr : tTr a ρ = (a ρ).bind trK := by
  unfold tTr
  congr 1
theorem x_tr1 : trK v ρ = trK2 ρ (rd ρ v) := rfl
theorem x_tr2 : trK2 ρ (some d) = trK3 ρ (truD d) := rfl
theorem x_tr3 (z : Bool) : trK3 ρ (some z) = .ok z ρ := rfl
def notK : Bool → Env → Out Bool := fun b ρ => .ok (!b) ρ
theorem x_not : stNot s ρ = (s ρ).bind notK := rfl
theorem x_not1 (z : Bool) : notK z ρ = .ok (!z) ρ := rfl
def andK (t : ST) : Bool → Env → Out Bool := fun c ρ => if c then t ρ else .ok false ρ
def orK (t : ST) : Bool → Env → Out Bool := fun c ρ => if c then .ok true ρ else t ρ
theorem x_and : stAnd s t ρ = (s ρ).bind (andK t) := rfl
theorem x_and1 : andK t true ρ = t ρ := rfl
theorem x_and2 : andK t false ρ = .ok false ρ := rfl
theorem x_or : stOr s t ρ = (s ρ).bind (orK t) := rfl
theorem x_or1 : orK t true ρ = .ok true ρ := rfl
theorem x_or2 : orK t false ρ = t ρ := rfl
def andV (b : SE) : Vl → Env → Out Vl := fun v ρ => match v with
  | .imm (.bl c) => if c then b ρ else .ok (.imm (.bl false)) ρ
  | _ => .fail
def orV (b : SE) : Vl → Env → Out Vl := fun v ρ => match v with
  | .imm (.bl c) => if c then .ok (.imm (.bl true)) ρ else b ρ
  | _ => .fail
def notVK : Vl → Env → Out Vl := fun v ρ => match v with
  | .imm (.bl c) => .ok (.imm (.bl (!c))) ρ
  | _ => .fail
theorem x_andV : eAndV a b ρ = (a ρ).bind (andV b) := rfl
theorem x_andV1 : andV b (.imm (.bl true)) ρ = b ρ := rfl
theorem x_andV2 : andV b (.imm (.bl false)) ρ = .ok (.imm (.bl false)) ρ := rfl
theorem x_orV : eOrV a b ρ = (a ρ).bind (orV b) := rfl
theorem x_orV1 : orV b (.imm (.bl true)) ρ = .ok (.imm (.bl true)) ρ := rfl
theorem x_orV2 : orV b (.imm (.bl false)) ρ = b ρ := rfl
theorem x_notV : eNotV a ρ = (a ρ).bind notVK := rfl
theorem x_notV1 (z : Bool) : notVK (.imm (.bl z)) ρ = .ok (.imm (.bl (!z))) ρ := rfl
def ifK (a b : SE) : Bool → Env → Out Vl := fun c ρ => if c then a ρ else b ρ
theorem x_if : eIf s a b ρ = (s ρ).bind (ifK a b) := rfl
theorem x_if1 : ifK a b true ρ = a ρ := rfl
theorem x_if2 : ifK a b false ρ = b ρ := rfl
/-! slices, methods -/
def prtK : Vl → Env → Out (Option Int) := fun v ρ => match v with
  | .imm (.int i) => .ok (some i) ρ
  | _ => .fail
theorem x_pno : prt .no ρ = .ok none ρ := rfl
theorem x_pat : prt (.at a) ρ = (a ρ).bind prtK := rfl
theorem x_pat1 (z : Int) : prtK (.imm (.int z)) ρ = .ok (some z) ρ := rfl
def slcK3 (v : Vl) (l : Option Int) : Option Int → Env → Out Vl := fun h ρ => unK2 (slcD l h) ρ (rd ρ v)
def slcK2 (v : Vl) (hi : Prt) : Option Int → Env → Out Vl := fun l ρ => (prt hi ρ).bind (slcK3 v l)
def slcK (lo hi : Prt) : Vl → Env → Out Vl := fun v ρ => (prt lo ρ).bind (slcK2 v hi)
theorem x_slc (lo hi : Prt) : eSlc a lo hi ρ = (a ρ).bind (slcK lo hi) := by
  unfold eSlc
  congr 1
theorem x_slc1 (lo hi : Prt) : slcK lo hi v ρ = (prt lo ρ).bind (slcK2 v hi) := rfl
theorem x_slc2 (hi : Prt) (l : Option Int) : slcK2 v hi l ρ = (prt hi ρ).bind (slcK3 v l) := rfl
theorem x_slc3 (l h : Option Int) : slcK3 v l h ρ = unK2 (slcD l h) ρ (rd ρ v) := rfl
def m1K3 (ty : D → Bool) (f : D → D → Option Vl) (b : SE) (va : Vl) (ρ : Env) : Option D → Out Vl
  | some d0 => if ty d0 then (b ρ).bind (binK2 f va) else .fail
  | none => .fail
def m1K (ty : D → Bool) (f : D → D → Option Vl) (b : SE) : Vl → Env → Out Vl := fun va ρ => m1K3 ty f b va ρ (rd ρ va)
theorem x_m1 (ty : D → Bool) : eM1 ty f a b ρ = (a ρ).bind (m1K ty f b) := by
  unfold eM1
  congr 1
theorem x_m11 (ty : D → Bool) : m1K ty f b v ρ = m1K3 ty f b v ρ (rd ρ v) := rfl
theorem x_m12 (ty : D → Bool) (h : ty d = true) : m1K3 ty f b v ρ (some d) = (b ρ).bind (binK2 f v) := if_pos h
theorem x_isS (z : List Nat) : isStrD (.str z) = true := rfl
/-! what is walked -/
def iofK2 (ρ : Env) : Option (List D) → Out (List D)
  | some l => .ok l ρ
  | none => .fail
def iofK : Vl → Env → Out (List D) := fun v ρ => match v with
  | .imm d => iofK2 ρ (itemsD d)
  | _ => .fail
theorem x_iof : iOf a ρ = (a ρ).bind iofK := by
  unfold iOf
  congr 1
theorem x_iof1 : iofK (.imm d) ρ = iofK2 ρ (itemsD d) := rfl
theorem x_iof2 (l : List D) : iofK2 ρ (some l) = .ok l ρ := rfl
theorem x_itl (l : List D) : itemsD (.lst l) = some l := rfl
theorem x_itt (l : List D) : itemsD (.tup l) = some l := rfl
theorem x_its (l : List Nat) : itemsD (.str l) = some (l.map fun c => .str [c]) := rfl
def rngK : List Vl → Env → Out (List D) := fun vs ρ => match vs with
  | [.imm (.int j)] => if small62 j then .ok (rngD 0 j.toNat) ρ else .fail
  | [.imm (.int i), .imm (.int j)] => if small62 i && small62 j then .ok (rngD i (j - i).toNat) ρ else .fail
  | _ => .fail
theorem x_rng (w : SA) : iRng w ρ = (w ρ).bind rngK := rfl
theorem x_rng1 {j : Int} (h : small62 j = true) : rngK [.imm (.int j)] ρ = .ok (rngD 0 j.toNat) ρ := if_pos h
theorem x_rng2 {z j : Int} (h : (small62 z && small62 j) = true) : rngK [.imm (.int z), .imm (.int j)] ρ = .ok (rngD z (j - z).toNat) ρ := if_pos h
def lcK2 (ρ1 : Env) (t : Tg) : Out (List D) → Out Vl
  | .ok acc ρ2 => .ok (.own (.lst acc)) (restE ρ1 (tgS t) ρ2)
  | _ => .fail
def lcK (t : Tg) (c : ST) (e : SE) : List D → Env → Out Vl := fun l ρ1 => if immAt ρ1 (tgS t) then lcK2 ρ1 t (lcL t c e l [] (wipeE ρ1 (tgS t))) else .fail
theorem x_lc (si : SI) (z : Tg) : eLc si z s e ρ = (si ρ).bind (lcK z s e) := by
  unfold eLc
  congr 1
theorem x_lc1 (z : Tg) (l : List D) (h : immAt ρ (tgS z) = true) : lcK z s e l ρ = lcK2 ρ z (lcL z s e l [] (wipeE ρ (tgS z))) := if_pos h
theorem x_lc2 (z : Tg) (l : List D) : lcK2 ρ z (.ok l ρ1) = .ok (.own (.lst l)) (restE ρ (tgS z) ρ1) := rfl
theorem x_tg1 : tgS (.nm i) = [i] := rfl
theorem x_wi0 : wipeE ρ [] = ρ := rfl
theorem x_wi1 (l : List Nat) : wipeE ρ (i :: l) = (wipeE ρ l).set i .non := rfl
theorem x_re0 : restE ρ1 [] ρ = ρ := rfl
def getK : Option Sl → Sl
  | some s => s
  | none => .non
theorem x_re1 (l : List Nat) : restE ρ1 (i :: l) ρ = (restE ρ1 l ρ).set i (getK ρ1[i]?) := by
  rw [restE, List.getD_eq_getElem?_getD]
  cases ρ1[i]? <;> rfl
theorem x_gk (z : Sl) : getK (some z) = z := rfl
def isIK : Option Sl → Bool
  | some (.imm _) => true
  | some .non => true
  | _ => false
theorem x_ia0 : immAt ρ [] = true := rfl
theorem x_ia1 (l : List Nat) : immAt ρ (i :: l) = (isIK ρ[i]? && immAt ρ l) := by
  rw [immAt]
  rcases ρ[i]? with _ | _ | _ | _ | _ <;> rfl
theorem x_ii1 : isIK (some (.imm d)) = true := rfl
theorem x_ii2 : isIK (some .non) = true := rfl
/-! statements -/
def seqK (b : SS) : SOut → SOut
  | .nx ρ1 => b ρ1
  | o => o
theorem x_seq : sSeq p q ρ = seqK q (p ρ) := by
  show (match p ρ with | .nx ρ1 => q ρ1 | o => o) = seqK q (p ρ)
  cases p ρ <;> rfl
theorem x_seq1 : seqK q (.nx ρ) = q ρ := rfl
theorem x_seq2 : seqK q (.rt v ρ) = .rt v ρ := rfl
theorem x_seq3 : seqK q (.bk ρ) = .bk ρ := rfl
theorem x_seq4 : seqK q (.ct ρ) = .ct ρ := rfl
theorem x_seq5 (z : Xc) : seqK q (.exc z ρ) = .exc z ρ := rfl
theorem x_pass : sPass ρ = .nx ρ := rfl
theorem x_brk : sBrk ρ = .bk ρ := rfl
theorem x_cont : sCont ρ = .ct ρ := rfl
theorem x_retN : sRetN ρ = .rt (.imm .non) ρ := rfl
def nxK : Option Env → SOut
  | some ρ => .nx ρ
  | none => .fail
theorem x_nxK : nxK (some ρ) = .nx ρ := rfl
def putK2 (ρ : Env) (i : Nat) (s : Sl) : Option Sl → Option Env
  | some (.par _) => none
  | none => none
  | _ => some (ρ.set i s)
theorem x_put (z : Sl) : putS i z ρ = putK2 ρ i z ρ[i]? := by unfold putS; rcases ρ[i]? with _ | _ | _ | _ | _ <;> rfl
theorem x_pk1 (z : Sl) : putK2 ρ i z (some .non) = some (ρ.set i z) := rfl
theorem x_pk2 (z : Sl) : putK2 ρ i z (some (.imm d)) = some (ρ.set i z) := rfl
theorem x_pk3 (z : Sl) : putK2 ρ i z (some (.own d)) = some (ρ.set i z) := rfl
def setK (i : Nat) : Out Vl → SOut
  | .ok (.imm d) ρ1 => nxK (putS i (.imm d) ρ1)
  | .ok (.own d) ρ1 => nxK (putS i (.own d) ρ1)
  | .ok (.ref _) _ => .fail
  | .exc x ρ1 => .exc x ρ1
  | .fail => .fail
theorem x_set : sSet i a ρ = setK i (a ρ) := by
  unfold sSet
  rcases a ρ with ⟨_ | _ | _, ρ1⟩ | _ | _ <;> try rfl
theorem x_set1 : setK i (.ok (.imm d) ρ) = nxK (putS i (.imm d) ρ) := rfl
theorem x_set2 : setK i (.ok (.own d) ρ) = nxK (putS i (.own d) ρ) := rfl
theorem x_set3 (z : Xc) : setK i (.exc z ρ) = .exc z ρ := rfl
def asgK (t : Tg) : Out Vl → SOut
  | .ok (.imm d) ρ1 => nxK (setT t d ρ1)
  | .exc x ρ1 => .exc x ρ1
  | _ => .fail
theorem x_asg (z : Tg) : sAsg z a ρ = asgK z (a ρ) := by
  unfold sAsg
  rcases a ρ with ⟨_ | _ | _, ρ1⟩ | _ | _ <;> try rfl
theorem x_asg1 (z : Tg) : asgK z (.ok (.imm d) ρ) = nxK (setT z d ρ) := rfl
theorem x_setN : setT (.nm i) d ρ = putK2 ρ i (.imm d) ρ[i]? := by unfold setT; rcases ρ[i]? with _ | _ | _ | _ | _ <;> rfl
theorem x_setTp (z : List Tg) (l : List D) : setT (.tup z) (.tup l) ρ = setTs z l ρ := by rw [setT]
def setsK (ts : List Tg) (l : List D) : Option Env → Option Env
  | some ρ1 => setTs ts l ρ1
  | none => none
theorem x_sts0 : setTs [] [] ρ = some ρ := by rw [setTs]
theorem x_sts1 (z : Tg) (zs : List Tg) (l : List D) : setTs (z :: zs) (d :: l) ρ = setsK zs l (setT z d ρ) := by
  rw [setTs]
  cases setT z d ρ <;> rfl
theorem x_sts2 (zs : List Tg) (l : List D) : setsK zs l (some ρ) = setTs zs l ρ := rfl
def ifSK (a b : SS) : Out Bool → SOut
  | .ok true ρ1 => a ρ1
  | .ok false ρ1 => b ρ1
  | .exc x ρ1 => .exc x ρ1
  | .fail => .fail
theorem x_ifS : sIf s p q ρ = ifSK p q (s ρ) := by
  show (match s ρ with | .ok true ρ1 => p ρ1 | .ok false ρ1 => q ρ1 | .exc x ρ1 => .exc x ρ1 | .fail => .fail) = ifSK p q (s ρ)
  rcases s ρ with ⟨_ | _, _⟩ | _ | _ <;> rfl
theorem x_ifS1 : ifSK p q (.ok true ρ) = p ρ := rfl
theorem x_ifS2 : ifSK p q (.ok false ρ) = q ρ := rfl
def retK : Out Vl → SOut
  | .ok v ρ1 => .rt v ρ1
  | .exc x ρ1 => .exc x ρ1
  | .fail => .fail
theorem x_ret : sRet a ρ = retK (a ρ) := by
  show (match a ρ with | .ok v ρ1 => .rt v ρ1 | .exc x ρ1 => .exc x ρ1 | .fail => .fail) = retK (a ρ)
  cases a ρ <;> rfl
theorem x_ret1 : retK (.ok v ρ) = .rt v ρ := rfl
theorem x_ret2 (z : Xc) : retK (.exc z ρ) = .exc z ρ := rfl
def exK : Out Vl → SOut
  | .ok _ ρ1 => .nx ρ1
  | .exc x ρ1 => .exc x ρ1
  | .fail => .fail
theorem x_exp : sExpr a ρ = exK (a ρ) := by
  show (match a ρ with | .ok _ ρ1 => .nx ρ1 | .exc x ρ1 => .exc x ρ1 | .fail => .fail) = exK (a ρ)
  cases a ρ <;> rfl
theorem x_exp1 : exK (.ok v ρ) = .nx ρ := rfl
theorem x_exp2 (z : Xc) : exK (.exc z ρ) = .exc z ρ := rfl
def owK : Option Sl → Option D
  | some (.own d) => some d
  | some (.par d) => some d
  | _ => none
theorem x_ow : owS i ρ = owK ρ[i]? := by unfold owS; rcases ρ[i]? with _ | _ | _ | _ | _ <;> rfl
theorem x_ow1 : owK (some (.own d)) = some d := rfl
theorem x_ow2 : owK (some (.par d)) = some d := rfl
def resK (i : Nat) (d : D) (ρ : Env) : Option Sl → Option Env
  | some (.own _) => some (ρ.set i (.own d))
  | some (.par _) => some (ρ.set i (.par d))
  | _ => none
theorem x_rs : reS i d ρ = resK i d ρ ρ[i]? := by unfold reS; rcases ρ[i]? with _ | _ | _ | _ | _ <;> rfl
theorem x_rs1 : resK i d ρ (some (.own x)) = some (ρ.set i (.own d)) := rfl
theorem x_rs2 : resK i d ρ (some (.par x)) = some (ρ.set i (.par d)) := rfl
def appK3 (i : Nat) (d : D) (ρ1 : Env) : Option D → SOut
  | some (.lst l) => if l.length < big then nxK (reS i (.lst (l ++ [d])) ρ1) else .fail
  | _ => .fail
def appK2 (i : Nat) : Out Vl → SOut
  | .ok (.imm d) ρ1 => appK3 i d ρ1 (owS i ρ1)
  | .exc x ρ1 => .exc x ρ1
  | _ => .fail
def appK (i : Nat) (o : Out Vl) : Option D → SOut
  | some (.lst _) => appK2 i o
  | _ => .fail
theorem x_app : sApp i a ρ = appK i (a ρ) (owS i ρ) := by
  unfold sApp appK
  cases owS i ρ with
  | none => rfl
  | some z =>
    cases z with
    | lst l0 =>
      dsimp only
      rcases a ρ with ⟨_ | _ | _, ρ1⟩ | _ | _ <;> try rfl
    | _ => rfl
theorem x_app1 (o : Out Vl) (l : List D) : appK i o (some (.lst l)) = appK2 i o := rfl
theorem x_app2 : appK2 i (.ok (.imm d) ρ) = appK3 i d ρ (owS i ρ) := rfl
theorem x_app3 (l : List D) (h : l.length < big) : appK3 i d ρ (some (.lst l)) = nxK (reS i (.lst (l ++ [d])) ρ) := if_pos h
def sputK4 (i : Nat) (ρ : Env) : Option D → SOut
  | some x' => nxK (reS i x' ρ)
  | none => .fail
def sputK3 (i : Nat) (d : D) (ρ : Env) : Option D → Option D → SOut
  | some kd, some x => sputK4 i ρ (putD x kd d)
  | _, _ => .fail
def sputK2 (i : Nat) (d : D) : Out Vl → SOut
  | .ok kv ρ2 => sputK3 i d ρ2 (rd ρ2 kv) (owS i ρ2)
  | .exc x ρ2 => .exc x ρ2
  | .fail => .fail
def sputK1 (i : Nat) (k : SE) (d : D) (ρ1 : Env) : Option D → SOut
  | some _ => sputK2 i d (k ρ1)
  | none => .fail
def sputK (i : Nat) (k : SE) : Out Vl → SOut
  | .ok (.imm d) ρ1 => sputK1 i k d ρ1 (owS i ρ1)
  | .exc x ρ1 => .exc x ρ1
  | _ => .fail
theorem x_sput : sPut i b a ρ = sputK i b (a ρ) := by
  unfold sPut
  rcases a ρ with ⟨_ | _ | _, ρ1⟩ | _ | _ <;> try rfl
theorem x_sput1 : sputK i b (.ok (.imm d) ρ) = sputK1 i b d ρ (owS i ρ) := rfl
theorem x_sput2 : sputK1 i b d ρ (some x) = sputK2 i d (b ρ) := rfl
theorem x_sput3 : sputK2 i d (.ok v ρ) = sputK3 i d ρ (rd ρ v) (owS i ρ) := rfl
theorem x_sput4 : sputK3 i d ρ (some y) (some x) = sputK4 i ρ (putD x y d) := rfl
theorem x_sput5 : sputK4 i ρ (some x) = nxK (reS i x ρ) := rfl
def forK (t : Tg) (b : SS) : Out (List D) → SOut
  | .ok l ρ1 => forL t b l ρ1
  | .exc x ρ1 => .exc x ρ1
  | .fail => .fail
theorem x_for (si : SI) (z : Tg) : sFor si z p ρ = forK z p (si ρ) := by
  show (match si ρ with | .ok l ρ1 => forL z p l ρ1 | .exc x ρ1 => .exc x ρ1 | .fail => .fail) = forK z p (si ρ)
  cases si ρ <;> rfl
theorem x_for1 (z : Tg) (l : List D) : forK z p (.ok l ρ) = forL z p l ρ := rfl
/-! a def -/
def finK2 : Option Vl → Option (List Ar) → FOut
  | some r, some bs => .ret r bs
  | _, _ => .fail
def finX (x : Xc) : Option (List Ar) → FOut
  | some bs => .exc x bs
  | none => .fail
def finK (as : List Ar) : SOut → FOut
  | .nx ρ => finK2 (some (.imm .non)) (backs as ρ)
  | .rt v ρ => finK2 (retV ρ v) (backs as ρ)
  | .exc x ρ => finX x (backs as ρ)
  | _ => .fail
theorem x_run (as : List Ar) (h : as.length = m) : runG m n p as = finK as (p (startE n as)) := by
  unfold runG
  rw [if_pos h]
  unfold runF
  cases p (startE n as) with
  | nx ρ => show (match backs as ρ with | some bs => FOut.ret (.imm .non) bs | none => .fail) = finK2 _ (backs as ρ); cases backs as ρ <;> rfl
  | rt v ρ => show (match retV ρ v, backs as ρ with | some r, some bs => FOut.ret r bs | _, _ => .fail) = finK2 (retV ρ v) (backs as ρ); cases retV ρ v <;> cases backs as ρ <;> rfl
  | exc x ρ => show (match backs as ρ with | some bs => FOut.exc x bs | none => .fail) = finX x (backs as ρ); cases backs as ρ <;> rfl
  | _ => rfl
theorem x_fin1 (as : List Ar) : finK as (.nx ρ) = finK2 (some (.imm .non)) (backs as ρ) := rfl
theorem x_fin2 (as : List Ar) : finK as (.rt v ρ) = finK2 (retV ρ v) (backs as ρ) := rfl
theorem x_fin3 (as : List Ar) (z : Xc) : finK as (.exc z ρ) = finX z (backs as ρ) := rfl
theorem x_fin4 (bs : List Ar) : finK2 (some v) (some bs) = .ret v bs := rfl
theorem x_fin5 (bs : List Ar) (z : Xc) : finX z (some bs) = .exc z bs := rfl
theorem x_rvi : retV ρ (.imm d) = some (.imm d) := rfl
theorem x_rvo : retV ρ (.own d) = some (.own d) := rfl
def rvK : Option Sl → Option Vl
  | some (.own d) => some (.own d)
  | some (.imm d) => some (.imm d)
  | _ => none
theorem x_rvr : retV ρ (.ref i) = rvK ρ[i]? := by unfold retV; dsimp only; rcases ρ[i]? with _ | _ | _ | _ | _ <;> rfl
theorem x_rk1 : rvK (some (.own d)) = some (.own d) := rfl
theorem x_rk2 : rvK (some (.imm d)) = some (.imm d) := rfl
theorem x_ba0 : backs [] ρ = some [] := rfl
theorem x_ba1 (as : List Ar) (z : Sl) : backs (.imm d :: as) (z :: ρ) = (backs as ρ).map (.imm d :: ·) := rfl
theorem x_ba2 (as : List Ar) : backs (.mt d :: as) (.par x :: ρ) = (backs as ρ).map (.mt x :: ·) := rfl
theorem x_se (as : List Ar) : startE n as = as.map slOf ++ List.replicate (n - as.length) .non := rfl
theorem x_si : slOf (.imm d) = .imm d := rfl
theorem x_sm : slOf (.mt d) = .par d := rfl
/-! values -/
theorem x_tupD (l : List D) (h : l.length ≤ big) : tupD l = some (.imm (.tup l)) := if_pos h
theorem x_lstD (l : List D) (h : l.length ≤ big) : lstD l = some (.own (.lst l)) := if_pos h
theorem x_plusS (z w : List Nat) (h : z.length + w.length ≤ big) : plusD (.str z) (.str w) = some (.imm (.str (z ++ w))) := if_pos h
theorem x_plusL (z w : List D) (h : z.length + w.length ≤ big) : plusD (.lst z) (.lst w) = some (.own (.lst (z ++ w))) := if_pos h
theorem x_lenS (z : List Nat) (h : z.length ≤ big) : lenD (.str z) = some (.imm (.int z.length)) := if_pos h
theorem x_lenL (z : List D) : lenD (.lst z) = some (.imm (.int z.length)) := rfl
theorem x_lenT (z : List D) : lenD (.tup z) = some (.imm (.int z.length)) := rfl
theorem x_sub (z w : Int) : subD (.int z) (.int w) = some (.imm (.int (z - w))) := rfl
theorem x_lt (z w : Int) : ltD (.int z) (.int w) = some (.imm (.bl (decide (z < w)))) := rfl
theorem x_gt (z w : Int) : gtD (.int z) (.int w) = some (.imm (.bl (decide (w < z)))) := rfl
theorem x_le (z w : Int) : leD (.int z) (.int w) = some (.imm (.bl (decide (z ≤ w)))) := rfl
theorem x_ge (z w : Int) : geD (.int z) (.int w) = some (.imm (.bl (decide (w ≤ z)))) := rfl
theorem x_neg (z : Int) : negD (.int z) = some (.imm (.int (-z))) := rfl
theorem x_revs (l : List D) : revsD (.lst l) = some (.own (.lst l.reverse)) := rfl
theorem x_neB (z w : Bool) : neD (.bl z) (.bl w) = some (.imm (.bl (!(z == w)))) := rfl
theorem x_eqB (z w : Bool) : eqD (.bl z) (.bl w) = some (.imm (.bl (z == w))) := rfl
theorem x_tB (z : Bool) : truD (.bl z) = some z := rfl
end
def nim : Sl → Prop
  | .non => True
  | .imm _ => True
  | _ => False
theorem nim1 (d : D) : nim (.imm d) := trivial
theorem x_pkn {ρ : Env} {i : Nat} {z s : Sl} (h : nim s) : putK2 ρ i z (some s) = some (ρ.set i z) := by
  cases s with
  | non => rfl
  | imm d => rfl
  | _ => exact h.elim
theorem x_iin {s : Sl} (h : nim s) : isIK (some s) = true := by
  cases s with
  | non => rfl
  | imm d => rfl
  | _ => exact h.elim
theorem x_slcS {lo hi : Option Int} {z : List Nat} (h : z.length ≤ big) : slcD lo hi (.str z) = some (.imm (.str (cutD z lo hi))) := if_pos h
theorem x_slcL {lo hi : Option Int} {z : List D} : slcD lo hi (.lst z) = some (.own (.lst (cutD z lo hi))) := rfl
theorem x_slcT {lo hi : Option Int} {z : List D} : slcD lo hi (.tup z) = some (.imm (.tup (cutD z lo hi))) := rfl
theorem x_memT {neg : Bool} {d : D} {l : List D} (h : (flatD d && l.all flatD) = true) : memD neg d (.tup l) = some (.imm (.bl (if neg then !(l.any fun x => eqP x d) else l.any fun x => eqP x d))) := by
  cases d <;> first | exact if_pos h | (cases h)
theorem x_memL {neg : Bool} {d : D} {l : List D} (h : (flatD d && l.all flatD) = true) : memD neg d (.lst l) = some (.imm (.bl (if neg then !(l.any fun x => eqP x d) else l.any fun x => eqP x d))) := by
  cases d <;> first | exact if_pos h | (cases h)
theorem x_yes {ρ : Env} : stYes ρ = .ok true ρ := rfl
theorem x_tms (i : Int) (j : Int) (h : ((decide (-(2 ^ 64) < i) && decide (i < 2 ^ 64)) || (decide (-(2 ^ 64) < j) && decide (j < 2 ^ 64))) = true) : timesD (.int i) (.int j) = some (.imm (.int (i * j))) := if_pos h
theorem x_mod (i j : Int) (h : 0 < j) : modD (.int i) (.int j) = some (.imm (.int (i % j))) := if_pos h
theorem x_fdiv (i j : Int) (h : (0 < j ∧ j ≤ 4611686018427387904)) : fdivD (.int i) (.int j) = some (.imm (.int (i / j))) := by
  refine fdivI h.1 ?_
  have h1 : (2 ^ 62 : Nat) < 2 ^ 8000 := Nat.pow_lt_pow_right (by decide) (by decide)
  have h2 : ((2 ^ 62 : Nat) : Int) < ((2 ^ 8000 : Nat) : Int) := Int.ofNat_lt.mpr h1
  have h3 : ((2 ^ 8000 : Nat) : Int) = 2 ^ 8000 := by norm_cast
  rw [h3] at h2
  have h4 : ((2 ^ 62 : Nat) : Int) = 4611686018427387904 := by decide
  omega
theorem rngD_get {lo : Int} {n j : Nat} {d : D} (h : (rngD lo n)[j]? = some d) : d = .int (lo + j) ∧ j < n := by
  unfold rngD at h
  rw [List.getElem?_map] at h
  by_cases hj : j < n
  · rw [List.getElem?_eq_getElem (by simpa using hj)] at h
    simp at h
    exact ⟨h.symm, hj⟩
  · rw [List.getElem?_eq_none (by simp; omega)] at h
    cases h
theorem rngD_len (lo : Int) (n : Nat) : (rngD lo n).length = n := by simp [rngD]
theorem x_sm62 {j : Int} (h : (decide (-4611686018427387904 ≤ j) && decide (j < 4611686018427387904)) = true) : small62 j = true := by
  unfold small62
  exact h
theorem x_big {n : Nat} (h : n ≤ 1000000) : (n ≤ big) = True := eq_true h
theorem x_bigL {n : Nat} (h : n < 1000000) : (n < big) = True := eq_true h
theorem le8000 {m : Int} (h : m ≤ 4611686018427387904) : m < 2 ^ 8000 := by
  have h1 : (2 ^ 62 : Nat) < 2 ^ 8000 := Nat.pow_lt_pow_right (by decide) (by decide)
  have h2 : ((2 ^ 62 : Nat) : Int) < ((2 ^ 8000 : Nat) : Int) := Int.ofNat_lt.mpr h1
  have h3 : ((2 ^ 8000 : Nat) : Int) = 2 ^ 8000 := by norm_cast
  rw [h3] at h2
  have h4 : ((2 ^ 62 : Nat) : Int) = 4611686018427387904 := by decide
  omega
end PF

/-! enumerate, pop, clear, defs that call themselves -/
namespace PF
open PySem PySem.Spec PyProof.Rows
open L2
section
variable {prog : Program} {w : World} {A : Around} {E : Value → Shared → Prop} {s : Shared}
end
section
variable {X : Cx} {W : WX} {K : PySem.W.Frag} {mg : Str → Option Value}
def enumL : Nat → List D → List D
  | _, [] => []
  | k, d :: l => .tup [.int (k : Nat), d] :: enumL (k + 1) l
def iEnm (a : SE) : SI := fun ρ => (a ρ).bind fun v ρ1 => match v with
  | .imm (.lst l) => .ok (enumL 0 l) ρ1
  | .imm (.tup l) => .ok (enumL 0 l) ρ1
  | _ => .fail
/-! ### x.pop(), x.clear() -/
theorem RIs.dropLast {H : Hp} : ∀ {l : List D} {vs : List V}, RIs K H l vs → RIs K H l.dropLast vs.dropLast
  | [], _, h => by cases h; exact rfl
  | [d], _, ⟨v, r, e, q, h⟩ => by cases h; subst e; exact rfl
  | d :: d2 :: l, _, ⟨v, r, e, q, v2, r2, e2, q2, h⟩ => by
    subst e e2
    exact ⟨v, _, rfl, q, RIs.dropLast ⟨v2, r2, rfl, q2, h⟩⟩
end
end PF
namespace PF
open PySem L2
end PF
namespace PF
open PySem L2
end PF

/-! the laws' words -/
namespace PF
open PySem L2
noncomputable def gDraw : List Ar → FOut := runG 2 5 bDraw
theorem drawN {d : D} (m : Int) (ok : dealOk d) (hm : 0 < m) (hm2 : m ≤ 4611686018427387904) : ∃ r d', 0 ≤ r ∧ r < m ∧ dealOk d' ∧ gDraw [.mt d, .imm (.int m)] = .ret (.imm (.int r)) [.mt d', .imm (.int m)] := draw_ok ok hm (le8000 hm2)
/-- texts of at most so many signs -/
def TL (n : Nat) (d : D) : Prop := ∃ s, d = .str s ∧ s.length ≤ n
def letters : List Nat := [97, 98, 99, 100, 101, 102, 103, 104, 105, 106, 107, 108, 109, 110, 111, 112, 113, 114, 115, 116, 117, 118, 119, 120, 121, 122]
end PF

/-! two names at once, {} of tuple keys, sorted(set(pairs)), dict(pairs) -/
namespace PF
open PySem PySem.Spec PyProof.Rows
open L2
section
variable {X : Cx} {W : WX} {K : PySem.W.Frag} {mg : Str → Option Value}
/-! ### a, b = x, y -/
def sPar (i j : Nat) (a : SA) : SS := fun ρ => match a ρ with
  | .ok [.imm d, .imm e] ρ1 => match putS i (.imm d) ρ1 with
    | some ρ2 => match putS j (.imm e) ρ2 with
      | some ρ3 => .nx ρ3
      | none => .fail
    | none => .fail
  | .ok _ _ => .fail
  | .exc x ρ1 => .exc x ρ1
  | .fail => .fail
/-! ### {} -/
def eNewT : SE := fun ρ => .ok (.own (.dcT [])) ρ
theorem NewQ.own {H : Hp} {d : D} {p : Addr} {o : HO} {Q : VK} (h : NewQ K H (.own d) Q) (hp : H p = none) (r : ∀ H', Ext H H' → H' p = some o → OwnR K H' (fun a => a = p) d (.ref p)) : Q (.ref p) (upd H p o) := by
  have g : Grow (fun a => a = p) H (upd H p o) := ⟨fun b o e => by rw [upd_ne (ne_of_none e hp)]; exact e, fun a z => z ▸ hp⟩
  exact h _ _ (fun a => a = p) ⟨r _ g.ext upd_same, fun a z => by rw [z, upd_same]; exact fun z => nomatch z⟩ g
/-! ### dict(pairs), the keys tuples -/
end
end PF

/-! sorted(set(pairs of small whole numbers)) -/
namespace PF
open PySem PySem.Spec PyProof.Rows
open L2
section
variable {X : Cx} {W : WX} {K : PySem.W.Frag} {mg : Str → Option Value}
end
/-! ### rows for simp -/
section
variable {ρ : Env} {i j : Nat}
def parK2 (j : Nat) (e : D) : Option Env → SOut
  | some ρ => nxK (putS j (.imm e) ρ)
  | none => .fail
def parK (i j : Nat) : Out (List Vl) → SOut
  | .ok [.imm d, .imm e] ρ => parK2 j e (putS i (.imm d) ρ)
  | .ok _ _ => .fail
  | .exc x ρ => .exc x ρ
  | .fail => .fail
theorem x_par (w : SA) : sPar i j w ρ = parK i j (w ρ) := by
  unfold sPar parK
  generalize w ρ = o
  cases o with
  | fail => rfl
  | exc x ρ1 => rfl
  | ok vs ρ1 =>
    rcases vs with _ | ⟨v, _ | ⟨u, _ | ⟨z, r⟩⟩⟩
    · rfl
    · cases v <;> rfl
    · cases v with
      | imm d => cases u with
        | imm e =>
          show (match putS i (.imm d) ρ1 with
            | some ρ2 => match putS j (.imm e) ρ2 with
              | some ρ3 => SOut.nx ρ3
              | none => .fail
            | none => .fail) = parK2 j e (putS i (.imm d) ρ1)
          unfold parK2
          cases putS i (.imm d) ρ1 with
          | none => rfl
          | some ρ2 =>
            dsimp only
            cases putS j (.imm e) ρ2 <;> rfl
        | own _ => rfl
        | ref _ => rfl
      | own _ => rfl
      | ref _ => rfl
    · cases v <;> (try cases u) <;> rfl
theorem x_par1 (d e : D) : parK i j (.ok [.imm d, .imm e] ρ) = parK2 j e (putS i (.imm d) ρ) := rfl
theorem x_par2 (e : D) : parK2 j e (some ρ) = nxK (putS j (.imm e) ρ) := rfl
def enmK : Vl → Env → Out (List D) := fun v ρ1 => match v with
  | .imm (.lst l) => .ok (enumL 0 l) ρ1
  | .imm (.tup l) => .ok (enumL 0 l) ρ1
  | _ => .fail
theorem x_enm (a : SE) : iEnm a ρ = (a ρ).bind enmK := rfl
theorem x_enm1 (l : List D) : enmK (.imm (.lst l)) ρ = .ok (enumL 0 l) ρ := rfl
theorem x_enm2 (l : List D) : enmK (.imm (.tup l)) ρ = .ok (enumL 0 l) ρ := rfl
theorem x_newT : eNewT ρ = .ok (.own (.dcT [])) ρ := rfl
end
end PF

/-! what is never reached, x.pop(i), xs[::w], a dict of the module, zip, dict displays -/
namespace PF
open PySem PySem.Spec PyProof.Rows
open L2
section
variable {X : Cx} {W : WX} {K : PySem.W.Frag} {mg : Str → Option Value}
/-! ### what is never reached -/
/-! ### x.pop(e) -/
/-! ### xs[::w] -/
/-! ### a dict of the module -/
/-! ### zip -/
def zipL : List D → List D → List D := List.zipWith fun a b => .tup [a, b]
/-- no pair of two things (text, tuple) -/
def npE : D → Bool
  | .tup l => !pairy l
  | _ => true
def npz (z : List D) : Bool := z.all npE
def iZip (a : SA) : SI := fun ρ => (a ρ).bind fun vs ρ1 => match vs with
  | [.imm (.lst l), .imm (.lst m)] => if npz (zipL l m) = true then .ok (zipL l m) ρ1 else .fail
  | [.imm (.tup l), .imm (.tup m)] => if npz (zipL l m) = true then .ok (zipL l m) ρ1 else .fail
  | _ => .fail
/-! ### {"a": x, ..} -/
def dspS : List (List Nat × SE) → Env → Out (List (DK × D))
  | [], ρ => .ok [] ρ
  | (k, e) :: r, ρ => (e ρ).bind fun v ρ1 => match v with
    | .imm d => (dspS r ρ1).bind fun l ρ2 => .ok ((.inr k, d) :: l) ρ2
    | _ => .fail
def dspT : List (List Nat × TE) → List (TE × TE) := List.map fun p => (tC (.str (mkS p.1)), p.2)
def dctL (l : List (DK × D)) : List (DK × D) := l.foldl (fun acc kv => putA acc kv.1 kv.2) []
theorem RIk.merge {H : Hp} : ∀ {m : List (DK × D)} {ws : List (Key × V)} {l : List (DK × D)} {vs : List (Key × V)}, RIk K H m ws → RIk K H l vs → RIk K H (m.foldl (fun acc kv => putA acc kv.1 kv.2) l) (mergeK vs ws)
  | [], _, _, _, h, k => by cases h; exact k
  | (k0, d) :: m, _, _, _, ⟨v, r, e, q, h⟩, k => by
    rw [e]
    show RIk K H (m.foldl (fun acc kv => putA acc kv.1 kv.2) (putA _ k0 d)) (mergeK (putK _ (toK k0) v) r)
    exact RIk.merge (m := m) h (RIk.put q k)
def eDsp (es : List (List Nat × SE)) : SE := fun ρ => (dspS es ρ).bind fun l ρ1 => if l.length ≤ 15 then .ok (.own (.dct (dctL l))) ρ1 else .fail
/-- the text's pairs -/
inductive DPs (X : Cx) (W : WX) : List (Option Expr) → List Expr → List (List Nat × SE) → Prop where
  | nil : DPs X W [] [] []
  | cons {x : Str} {k : List Nat} {j : Nat} {p : Pos} {v : Expr} {e : SE} {ks : List (Option Expr)} {vs : List Expr} {es : List (List Nat × SE)} : x = mkS k → PEd X W v e → DPs X W ks vs es → DPs X W (some (.Constant (.str x) j p) :: ks) (v :: vs) ((k, e) :: es)
theorem DPs.pps {ks : List (Option Expr)} {vs : List Expr} {es : List (List Nat × SE)} {pos : Pos} (h : DPs X W ks vs es) : ks.length = es.length ∧ vs.length = es.length ∧ ks.all (·.isSome) = true ∧ ∃ ts, PPs X pos ks vs (dspT ts) ∧ Paired (fun t s => t.1 = s.1 ∧ SdE X.K X.mg W t.2 s.2) ts es := by
  induction h with
  | nil => exact ⟨rfl, rfl, rfl, [], pps_nil, .nil⟩
  | @cons x k j p v e ks vs es hx hv hr ih =>
    obtain ⟨l1, l2, h3, ts, h4, h5⟩ := ih
    obtain ⟨tv, v1, v2⟩ := hv
    subst hx
    exact ⟨by simp [l1], by simp [l2], by simp [h3], (k, tv) :: ts, pps_cons pe_str v1 h4, .cons ⟨rfl, v2⟩ h5⟩
end
/-! ### rows for simp -/
section
variable {ρ : Env} {i j : Nat}
def dspK (l : List (DK × D)) (ρ : Env) : Out Vl := if l.length ≤ 15 then .ok (.own (.dct (dctL l))) ρ else .fail
def dspB (k : List Nat) (d : D) (l : List (DK × D)) (ρ : Env) : Out (List (DK × D)) := .ok ((.inr k, d) :: l) ρ
def dspA (k : List Nat) (r : List (List Nat × SE)) (v : Vl) (ρ : Env) : Out (List (DK × D)) := match v with
  | .imm d => (dspS r ρ).bind (dspB k d)
  | _ => .fail
theorem x_dsp (es : List (List Nat × SE)) : eDsp es ρ = (dspS es ρ).bind dspK := rfl
theorem x_dsp1 (l : List (DK × D)) (h : l.length ≤ 15) : dspK l ρ = .ok (.own (.dct (dctL l))) ρ := if_pos h
theorem x_dspN : dspS [] ρ = .ok [] ρ := rfl
theorem x_dspC (k : List Nat) (e : SE) (r : List (List Nat × SE)) : dspS ((k, e) :: r) ρ = (e ρ).bind (dspA k r) := by
  rw [dspS]
  cases e ρ with
  | fail => rfl
  | exc x ρ1 => rfl
  | ok v ρ1 =>
    cases v <;> rfl
theorem x_dspA (k : List Nat) (r : List (List Nat × SE)) (d : D) : dspA k r (.imm d) ρ = (dspS r ρ).bind (dspB k d) := rfl
theorem x_dspB (k : List Nat) (d : D) (l : List (DK × D)) : dspB k d l ρ = .ok ((.inr k, d) :: l) ρ := rfl
def zipK (vs : List Vl) (ρ1 : Env) : Out (List D) := match vs with
  | [.imm (.lst l), .imm (.lst m)] => if npz (zipL l m) = true then .ok (zipL l m) ρ1 else .fail
  | [.imm (.tup l), .imm (.tup m)] => if npz (zipL l m) = true then .ok (zipL l m) ρ1 else .fail
  | _ => .fail
theorem x_zip (w : SA) : iZip w ρ = (w ρ).bind zipK := rfl
theorem x_zip1 (l m : List D) (h : npz (zipL l m) = true) : zipK [.imm (.lst l), .imm (.lst m)] ρ = .ok (zipL l m) ρ := if_pos h
theorem x_zip2 (l m : List D) (h : npz (zipL l m) = true) : zipK [.imm (.tup l), .imm (.tup m)] ρ = .ok (zipL l m) ρ := if_pos h
end
end PF

/-! comprehensions over pairs -/
namespace PF
open PySem PySem.Spec PyProof.Rows
open L2
theorem x_tg2 (i j : Nat) : tgS (.tup [.nm i, .nm j]) = [i, j] := by simp [tgS, tgSs]
theorem x_tg3 (i j k : Nat) : tgS (.tup [.nm i, .nm j, .nm k]) = [i, j, k] := by simp [tgS, tgSs]
theorem x_tg4 (i j k l : Nat) : tgS (.tup [.nm i, .nm j, .nm k, .nm l]) = [i, j, k, l] := by simp [tgS, tgSs]
end PF

/-! the laws' words are unlike -/
namespace PF
open PySem L2
end PF

/-! list(zip(xs, ys)), each a list or a tuple -/
namespace PF
open PySem PySem.Calls PyProof.Rows
section
variable {prog : Program} {w : World} {A : Around} {E : Value → Shared → Prop} {s : Shared} {z TI TO T i1 i2 : Addr} {fp1 fp2 : List Addr} {n1 n2 i : Nat} {P1 P2 : Nat → Value → Prop} {St1 St2 : Nat → Heap → Prop} {f : Bool} {oT : Obj}
/-! ### the list that is filled -/
/-- what was put: new pairs -/
def Made (P1 P2 : Nat → Value → Prop) (N : Nat) (off : Addr → Prop) (h : Heap) (acc : Array Value) (i : Nat) : Prop := acc.size = i ∧ ∀ j v, acc[j]? = some v → ∃ (T : Addr) (x1 x2 : Value), v = .ref T ∧ P1 j x1 ∧ P2 j x2 ∧ IsTupOf2 h T x1 x2 ∧ N ≤ T ∧ ¬ off T
/-- each once -/
def Once (acc : Array Value) : Prop := ∀ (i j : Nat) (v : Value), acc[i]? = some v → acc[j]? = some v → i = j
theorem Once.push {acc : Array Value} {N : Nat} {off : Addr → Prop} {h : Heap} {T : Addr} (q : Once acc) (m : Made P1 P2 N off h acc i) (hT : h.objs.size ≤ T) : Once (acc.push (.ref T)) := by
  have old : ∀ (j : Nat) (v : Value), acc[j]? = some v → v ≠ Value.ref T := fun j v e z => by
    obtain ⟨T', _, _, e1, _, _, e2, _⟩ := m.2 j v e
    rw [z] at e1
    cases e1
    exact absurd (Heap.lt_size e2) (Nat.not_lt_of_le hT)
  intro a b v ha hb
  rw [Array.getElem?_push] at ha hb
  split at ha
  · rename_i e1
    split at hb
    · rename_i e2; rw [e1, e2]
    · cases ha; exact absurd rfl (old b _ hb)
  · split at hb
    · cases hb; exact absurd rfl (old a _ ha)
    · exact q a b v ha hb
theorem Made.push {N : Nat} {off : Addr → Prop} {h h' : Heap} {acc : Array Value} {x1 x2 : Value} {T : Addr} (m : Made P1 P2 N off h acc i) (k : ∀ b o, ¬ off b → h.get? b = some o → h'.get? b = some o) (p1 : P1 i x1) (p2 : P2 i x2) (hT : IsTupOf2 h' T x1 x2) (hN : N ≤ T) (ho : ¬ off T) :
    Made P1 P2 N off h' (acc.push (.ref T)) (i + 1) := by
  refine ⟨by rw [Array.size_push, m.1], fun j v hj => ?_⟩
  rw [Array.getElem?_push] at hj
  split at hj
  · rename_i e; rw [m.1] at e; cases hj; subst e; exact ⟨T, x1, x2, rfl, p1, p2, hT, hN, ho⟩
  · obtain ⟨T', y1, y2, e, q1, q2, q3, q4, q5⟩ := m.2 j v hj
    exact ⟨T', y1, y2, e, q1, q2, k _ _ q5 q3, q4, q5⟩
theorem Made.keep {N : Nat} {off : Addr → Prop} {h h' : Heap} {acc : Array Value} (m : Made P1 P2 N off h acc i) (k : ∀ b o, ¬ off b → h.get? b = some o → h'.get? b = some o) : Made P1 P2 N off h' acc i :=
  ⟨m.1, fun j v hj => by obtain ⟨T', y1, y2, e, q1, q2, q3, q4, q5⟩ := m.2 j v hj; exact ⟨T', y1, y2, e, q1, q2, k _ _ q5 q3, q4, q5⟩⟩
/-! ### list(z) of a zip z that is just made -/
end
end PF
namespace PF
open PySem PySem.Spec PyProof.Rows
open L2
section
variable {X : Cx} {W : WX} {K : PySem.W.Frag} {mg : Str → Option Value}
end
end PF
namespace PF
open PySem PySem.Spec PyProof.Rows
open L2
section
variable {X : Cx} {W : WX} {K : PySem.W.Frag} {mg : Str → Option Value}
end
end PF

/-! d.get(k) -/
namespace PF
open PySem PySem.Spec PyProof.Rows
open L2
section
variable {X : Cx} {W : WX} {K : PySem.W.Frag} {mg : Str → Option Value}
def someD : Option D → D
  | some d => d
  | none => .non
def getD : D → D → Option Vl
  | .dct l, k => match keyD k with
    | some k' => some (.imm (someD (assocD k' l)))
    | none => none
  | .dcT l, .tup ks => match keysD ks with
    | some k' => some (.imm (someD (assocD k' l)))
    | none => none
  | _, _ => none
end
end PF

/-! for .. in zip(xs, ys), each a list or a tuple -/
namespace PF
open PySem PySem.Spec PyProof.Rows
open L2
section
variable {X : Cx} {W : WX} {K : PySem.W.Frag} {mg : Str → Option Value}
end
end PF

/-! max(l, default=n), sum(l), str(n), int(text) -/
namespace PF
open PySem PySem.Spec PyProof.Rows
open L2
section
variable {prog : Program} {w : World} {A : Around} {E : Value → Shared → Prop} {R : Result → Shared → Prop} {I S : Addr} {fp wr : List Addr} {n : Nat} {P : Nat → Value → Prop} {St : Nat → Heap → Prop}
end

section
variable {X : Cx} {W : WX} {K : PySem.W.Frag} {mg : Str → Option Value}
/-! ### sum -/
/-! ### str(n) -/
/-! ### int(text) -/
/-! ### max(l, default=n) -/
end
end PF

/-! the laws' words are of small letters; texts joined -/
namespace PF
open PySem L2
theorem joinS_eq (a : List Nat) (ys : List (List Nat)) : joinS a ys = _root_.TL.joinL a ys := by
  have e := SX.join_S a ys
  have e2 : Txt.join (mkS a) (ys.map mkS) = mkS (_root_.TL.joinL a ys) := e
  unfold joinS
  rw [e2]
  simp [mkS]
theorem joinL_nil : ∀ cs : List Nat, _root_.TL.joinL [] (cs.map fun c => [c]) = cs
  | [] => rfl
  | [c] => rfl
  | c :: c2 :: cs => by
    have ih := joinL_nil (c2 :: cs)
    show [c] ++ ([] ++ _root_.TL.joinL [] ((c2 :: cs).map fun c => [c])) = _
    rw [ih]; rfl
theorem joins_eq (cs : List Nat) (h : cs.length ≤ big) : ∃ t, t = cs ∧ joinD (.str []) (.lst (cs.map fun c => .str [c])) = some (.imm (.str t)) := by
  refine ⟨cs, rfl, ?_⟩
  have e1 : strsD (cs.map fun c => D.str [c]) = some (cs.map fun c => [c]) := by
    clear h
    induction cs with
    | nil => rfl
    | cons c cs ih =>
      rw [List.map_cons, List.map_cons]
      unfold strsD
      rw [ih]; rfl
  have e2 : ((cs.map fun c => [c]).map (·.length)).sum = cs.length := by
    clear h e1
    induction cs with
    | nil => rfl
    | cons c cs ih =>
      rw [List.map_cons, List.map_cons, List.sum_cons, ih, List.length_cons]; simp; omega
  show joinL [] _ = _
  unfold joinL
  rw [e1]
  dsimp only
  rw [if_pos (by rw [e2, List.length_nil, Nat.mul_zero]; omega), joinS_eq, joinL_nil]
/-- a small letter -/
def Lt (c : Nat) : Prop := 97 ≤ c ∧ c ≤ 122
instance (c : Nat) : Decidable (Lt c) := by unfold Lt; infer_instance
def numb : List Nat := [110, 117, 109, 98, 101, 114]
theorem nm1 : memD false (.str numb) (.tup [.str [109, 97, 100, 101], .str [97, 115, 107, 101, 100], .str [100, 101, 102], .str [116, 97, 98], .str [99, 114, 111, 115, 115], .str [116, 111], .str [110, 117, 109, 98, 101, 114]]) ≠ some (.imm (.bl false)) := by
  have : memD false (.str numb) (.tup [.str [109, 97, 100, 101], .str [97, 115, 107, 101, 100], .str [100, 101, 102], .str [116, 97, 98], .str [99, 114, 111, 115, 115], .str [116, 111], .str [110, 117, 109, 98, 101, 114]]) = some (.imm (.bl true)) := rfl
  rw [this]
  exact fun z => nomatch z
def Ltr (s : List Nat) : Prop := s ≠ [] ∧ s ≠ numb ∧ ∀ c ∈ s, Lt c
instance (s : List Nat) : Decidable (Ltr s) := by unfold Ltr; infer_instance
end PF

/-! dict(d), dict of a list or a tuple of pairs, {} of texts, one of two lists, is of truths -/
namespace PF
open PySem PySem.Spec PyProof.Rows
open L2
section
variable {X : Cx} {W : WX} {K : PySem.W.Frag} {mg : Str → Option Value}
/-! ### {} -/
def eNewK : SE := fun ρ => .ok (.own (.dct [])) ρ
/-! ### is True -/
def isBD (neg : Bool) : D → D → Option Vl
  | .bl a, .bl b => some (.imm (.bl (if neg then !decide (a = b) else decide (a = b))))
  | _, _ => none
/-! ### dict(tuple of pairs) -/
/-! ### dict(x) -/
/-! ### [xs, ys][i]: one of two of our own lists -/
def ePkR (a b c : SE) : SE := fun ρ => (a ρ).bind fun va ρ1 => match va with
  | .ref j => (b ρ1).bind fun vb ρ2 => match vb with
    | .ref k => (c ρ2).bind fun vc ρ3 => match vc with
      | .imm (.int i) => if i = 0 then .ok (.ref j) ρ3 else if i = 1 then .ok (.ref k) ρ3 else .fail
      | _ => .fail
    | _ => .fail
  | _ => .fail
/-! ### rows for simp -/
theorem x_newK {ρ : PF.Env} : eNewK ρ = .ok (.own (.dct [])) ρ := rfl
theorem x_isB {a b : Bool} {neg : Bool} : isBD neg (.bl a) (.bl b) = some (.imm (.bl (if neg then !decide (a = b) else decide (a = b)))) := rfl
def pkK3 (j k : Nat) : Vl → PF.Env → Out Vl
  | .imm (.int i), ρ3 => if i = 0 then .ok (.ref j) ρ3 else if i = 1 then .ok (.ref k) ρ3 else .fail
  | _, _ => .fail
def pkK2 (c : SE) (j : Nat) : Vl → PF.Env → Out Vl
  | .ref k, ρ2 => (c ρ2).bind (pkK3 j k)
  | _, _ => .fail
def pkK (b c : SE) : Vl → PF.Env → Out Vl
  | .ref j, ρ1 => (b ρ1).bind (pkK2 c j)
  | _, _ => .fail
theorem x_pkR {a b c : SE} {ρ : PF.Env} : ePkR a b c ρ = (a ρ).bind (pkK b c) := by
  unfold ePkR
  refine congrArg (Out.bind (a ρ)) (funext fun va => funext fun ρ1 => ?_)
  cases va with
  | imm d => rfl
  | own d => rfl
  | ref j =>
    show (b ρ1).bind _ = (b ρ1).bind (pkK2 c j)
    refine congrArg (Out.bind (b ρ1)) (funext fun vb => funext fun ρ2 => ?_)
    cases vb with
    | imm d => rfl
    | own d => rfl
    | ref k =>
      show (c ρ2).bind _ = (c ρ2).bind (pkK3 j k)
      refine congrArg (Out.bind (c ρ2)) (funext fun vc => funext fun ρ3 => ?_)
      cases vc with
      | imm d => cases d <;> rfl
      | own d => rfl
      | ref k => rfl
theorem x_pkR1 {b c : SE} {j : Nat} {ρ : PF.Env} : pkK b c (.ref j) ρ = (b ρ).bind (pkK2 c j) := rfl
theorem x_pkR2 {c : SE} {j k : Nat} {ρ : PF.Env} : pkK2 c j (.ref k) ρ = (c ρ).bind (pkK3 j k) := rfl
theorem x_pkR3 {j k : Nat} {ρ : PF.Env} : pkK3 j k (.imm (.int 0)) ρ = .ok (.ref j) ρ := rfl
theorem x_pkR4 {j k : Nat} {ρ : PF.Env} : pkK3 j k (.imm (.int 1)) ρ = .ok (.ref k) ρ := rfl
end
end PF

/-! own exceptions: raised, caught, looked at -/
namespace PF
open PySem PySem.Spec PyProof.Rows
open L2
abbrev veMro : List Value := [.type "ValueError", .type "Exception", .type "BaseException", .type "object"]
/-- an own exception class without own __init__ -/
structure XcN (K : PySem.W.Frag) (mg : Str → Option Value) (x : Str) where
  C : Addr
  m : mg x = some (.ref C)
  q : PySem.W.excIn K C veMro "ValueError.__new__" = true
  k : PySem.W.keepIn K (.ref C) = true
  s : PySem.W.subIn K (.ref C) (.type "BaseException") = some true
  t : PySem.W.typeIn K (.ref C) = some (.type "type")
section
variable {X : Cx} {W : WX} {K : PySem.W.Frag} {mg : Str → Option Value}
theorem mk_none {C : Addr} {x : Str} {p pos : Pos} (gC : X.mg x = some (.ref C)) (q : PySem.W.excIn X.K C veMro "ValueError.__new__" = true) (kC : PySem.W.keepIn X.K (.ref C) = true) (r : Raises X (.ref C)) (hg : Gl X x) (hdb : (x == ("__debug__" : Str)) = false := by decide) :
    L2N.PMk X (.Call (.Name x p) [] [] pos) (fun _ H Q => Q (.ref C) none H) := fun pins s σ H Q I h => by
  refine wpAny_Call_Name_kw (ld_glob I hg gC (PySem.W.callWith_K0 I.kIn kC ?_) hdb)
  obtain ⟨bm, N, nm, qn, bs, hdct, sn, sub, ab, col, dd, k0, k1, k2, k3, k5, mN, h1, h2, h3, T⟩ := exc_obj I.kIn q
  refine wpAny_call_exc_subT PySem.F.excBase_ValueError T h1 h2 h3 (fun h' e made => ?_) (Nat.zero_le _)
  exact L2N.mk_of I made r h (I.hok.gone made.new)
def sRaise0 (x : Str) : SS := fun ρ => .exc ⟨x, []⟩ ρ
theorem psd_raise0 {k : Nat} {x : Str} {p pos pos2 : Pos} (C : Ctx X W k) (N : XcN X.K X.mg x) (hg : Gl X x := by rfl) (hdb : (x == ("__debug__" : Str)) = false := by decide) : PSd X W (.Raise (some (.Call (.Name x p) [] [] pos)) none pos2) (sRaise0 x) :=
  ⟨_, L2N.ps_raise C.calm C.tk (mk_none N.m N.q N.k (raises_own N.s N.t) hg hdb), fun P σ H F ρ D E h => h (.ref N.C) none σ H F E ⟨N.C, N.m, rfl, .inl ⟨rfl, rfl⟩⟩ (Frm.refl _ _)⟩
/-! ### .. with names of its own -/
/-- __init__(self, f): self.f = f -/
def spIn1 (K : PySem.W.Frag) (f : Str) : Sp := fun vs H Q _ => ∃ (a C : Addr) (v : V), vs = [.ref a, v] ∧ OexC K C ∧ PySem.W.findIn K (.ref C) f = some none ∧ H a = some (exo a C none) ∧ ∀ dx, H dx = none → dx ≠ a → Q .non (upd (upd H dx (exd dx [(f, v)])) a (exo a C (some dx)))
/-- __init__(self, f, g): self.f = f; self.g = g -/
def spIn2 (K : PySem.W.Frag) (f g : Str) : Sp := fun vs H Q _ => ∃ (a C : Addr) (v u : V), vs = [.ref a, v, u] ∧ OexC K C ∧ PySem.W.findIn K (.ref C) f = some none ∧ PySem.W.findIn K (.ref C) g = some none ∧ H a = some (exo a C none) ∧
  ∀ dx, H dx = none → dx ≠ a → Q .non (upd (upd (upd H dx (exd dx [(f, v)])) a (exo a C (some dx))) dx (exd dx [(g, u), (f, v)]))
variable {P : Program} {w : World} {base : Heap}
theorem ok_in1 {q : Str} {st : Stmt} {fI : Addr} {fd : FuncData} {f : Str} {p1 p2 p3 p4 : Pos} (F : Fun K "__init__" q st fI fd) (S : FnScope ["self", f] ["self", f] (defScope st)) (hb : defBody st = [.Assign [.Attribute (.Name "self" p1) f p2] (.Name f p3) p4])
    (h0 : List.lookup ("self" : Str) (defScope st).names = some .local) (h1 : List.lookup f (defScope st).names = some .local)
    (hd : (f == ("__debug__" : Str)) = false := by decide) (hcd : (f == ("__classdict__" : Str)) = false := by decide) : FnOk P w K mg base CX0 1 fI fd ["self", f] (spIn1 K f) := by
  refine F.ok S (fun vs H Q E h => ?_) (fun cdv A outer s H vs Q E hr h => ⟨tOst K f (tVar 0) (tVar 1), ?_, ?_⟩)
  · obtain ⟨a, C, v, rfl, _⟩ := h; rfl
  · rw [hb]
    exact pss_one (ps_ost (pe_var (x := "self") rfl (.inl h0)) (pe_var rfl (.inl h1) hd hcd))
  · obtain ⟨a, C, v, rfl, T, n1, e, k⟩ := h
    exact ⟨v, rfl, .ref a, rfl, a, C, rfl, T, n1, .inl ⟨e, fun dx h1 h2 => k dx h1 h2⟩⟩
theorem ok_in2 {q : Str} {st : Stmt} {fI : Addr} {fd : FuncData} {f g : Str} {p1 p2 p3 p4 q1 q2 q3 q4 : Pos} (F : Fun K "__init__" q st fI fd) (S : FnScope ["self", f, g] ["self", f, g] (defScope st)) (hb : defBody st = [.Assign [.Attribute (.Name "self" p1) f p2] (.Name f p3) p4, .Assign [.Attribute (.Name "self" q1) g q2] (.Name g q3) q4])
    (h0 : List.lookup ("self" : Str) (defScope st).names = some .local) (h1 : List.lookup f (defScope st).names = some .local) (h2 : List.lookup g (defScope st).names = some .local)
    (hd : (f == ("__debug__" : Str)) = false := by decide) (hcd : (f == ("__classdict__" : Str)) = false := by decide) (hd2 : (g == ("__debug__" : Str)) = false := by decide) (hcd2 : (g == ("__classdict__" : Str)) = false := by decide) : FnOk P w K mg base CX0 1 fI fd ["self", f, g] (spIn2 K f g) := by
  refine F.ok S (fun vs H Q E h => ?_) (fun cdv A outer s H vs Q E hr h => ⟨tSeq (tOst K f (tVar 0) (tVar 1)) (tOst K g (tVar 0) (tVar 2)), ?_, ?_⟩)
  · obtain ⟨a, C, v, u, rfl, _⟩ := h; rfl
  · rw [hb]
    exact pss_cons (ps_ost (pe_var (x := "self") rfl (.inl h0)) (pe_var rfl (.inl h1) hd hcd)) (pss_one (ps_ost (pe_var (x := "self") rfl (.inl h0)) (pe_var rfl (.inl h2) hd2 hcd2)))
  · obtain ⟨a, C, v, u, rfl, T, n1, n2, e, k⟩ := h
    refine ⟨v, rfl, .ref a, rfl, a, C, rfl, T, n1, .inl ⟨e, fun dx h1 h2 => ?_⟩⟩
    exact ⟨u, rfl, .ref a, rfl, a, C, rfl, T, n2, .inr ⟨dx, [(f, v)], upd_same, by rw [upd_ne h2, upd_same], by simp, k dx h1 h2⟩⟩
/-- an own exception class with an __init__ of one name -/
structure XcI1 (K : PySem.W.Frag) (mg : Str → Option Value) (x f : Str) where
  C : Addr
  fI : Addr
  fd : FuncData
  m : mg x = some (.ref C)
  T : OexC K C
  i : PySem.W.findIn K (.ref C) "__init__" = some (some (.ref fI))
  t : PySem.W.typeIn K (.ref fI) = some (.type "function")
  n : PySem.W.findIn K (.ref C) f = some none
  b : Binds K fd ["self", f] []
  ok : ∀ {P : Program} {w : World} {base : Heap}, FnOk P w K mg base CX0 1 fI fd ["self", f] (spIn1 K f)
structure XcI2 (K : PySem.W.Frag) (mg : Str → Option Value) (x f g : Str) where
  C : Addr
  fI : Addr
  fd : FuncData
  m : mg x = some (.ref C)
  T : OexC K C
  i : PySem.W.findIn K (.ref C) "__init__" = some (some (.ref fI))
  t : PySem.W.typeIn K (.ref fI) = some (.type "function")
  n : PySem.W.findIn K (.ref C) f = some none
  n2 : PySem.W.findIn K (.ref C) g = some none
  b : Binds K fd ["self", f, g] []
  ok : ∀ {P : Program} {w : World} {base : Heap}, FnOk P w K mg base CX0 1 fI fd ["self", f, g] (spIn2 K f g)
/-- the exception itself is not told: its names alone stand -/
theorem del_upd {H : Hp} {a dx : Addr} {o1 o2 o3 o4 : HO} (ha : H a = none) (hne : dx ≠ a) : upd (del (upd (upd (upd H a o1) dx o2) a o3) a) dx o4 = upd H dx o4 := by
  funext b
  by_cases e : b = dx
  · rw [e, upd_same, upd_same]
  · rw [upd_ne e, upd_ne e]
    by_cases q : b = a
    · rw [q, del_same, ha]
    · rw [del_ne q, upd_ne q, upd_ne e, upd_ne q]
theorem del_upd2 {H : Hp} {a dx : Addr} {o1 o2 o3 o4 o5 : HO} (ha : H a = none) (hne : dx ≠ a) : upd (del (upd (upd (upd (upd H a o1) dx o2) a o3) dx o5) a) dx o4 = upd H dx o4 := by
  funext b
  by_cases e : b = dx
  · rw [e, upd_same, upd_same]
  · rw [upd_ne e, upd_ne e]
    by_cases q : b = a
    · rw [q, del_same, ha]
    · rw [del_ne q, upd_ne e, upd_ne q, upd_ne e, upd_ne q]
/-- an own class with its own __init__, called: the exception has no context -/
theorem pmk_oexN {CX : CXT} {x : Str} {C fI : Addr} {k : Nat} {fd : FuncData} {ps : List Str} {sp : Sp} {ds : List Value} {dvs : List V} {e : Expr} {es : List Expr} {ta : TA} {p pos : Pos} (T : OexC X.K C) (iC : PySem.W.findIn X.K (.ref C) "__init__" = some (some (.ref fI))) (tI : PySem.W.typeIn X.K (.ref fI) = some (.type "function"))
    (F1 : FnOk X.prog X.w X.K X.mg X.base CX k fI fd ps sp) (hr : Room (k + 1) X.A) (hb : Binds X.K fd ps ds) (hd : Vals dvs ds) (hx : Passes CX X (fun _ _ _ => False)) (hg : Gl X x) (hm : X.mg x = some (.ref C)) (ha : PA X (e :: es) ta)
    (hdb : (x == ("__debug__" : Str)) = false := by decide) (he : starEach (e :: es) X.env = (false, eval e X.env) :: starEach es X.env := by rfl) (hpl : (backTo pos (starEach es X.env)).any (·.1) = false := by rfl) :
    L2N.PMk X (.Call (.Name x p) (e :: es) [] pos) (tMkO C sp dvs ta) := fun pins s σ H Q I h => by
  obtain ⟨nm, q, N, bs, bm, sn, sub, ab, col, dd, _, _, _, _, _, hC, hbm⟩ := T.cls
  refine wpAny_Call_Name_kw (ld_glob I hg hm ?_ hdb)
  refine PySem.W.callWith_K (h₀ := X.base) I.ok.mod.kin T.kC (thn (ha.run pos pins s σ H _ I h) fun us s1 ⟨vs, H1, I1, r1, hz, q1⟩ => ⟨I1.kIn, ?_⟩) he hpl
  obtain ⟨hp, g, dr, tk, os⟩ := s1
  have hsz : hp.objs.size ≤ hp.objs.size + 1 := Nat.le_succ _
  have hq := q1 _ (I1.hok.fresh hsz)
  have kk : ∀ b o, hp.get? b = some o → ((hp.push (PySem.W.kdv_tup us)).push (PySem.HandSPX.excO C hp.objs.size)).get? b = some o := fun b o z => Heap.get?_push_of_some _ (Heap.get?_push_of_some _ z)
  have I2 : Inv X pins σ (upd H1 (hp.objs.size + 1) (exo (hp.objs.size + 1) C none)) ⟨(hp.push (PySem.W.kdv_tup us)).push (PySem.HandSPX.excO C hp.objs.size), g, dr, tk, os⟩ :=
    I1.laid (t' := tk) (a := hp.objs.size + 1) (o := exo (hp.objs.size + 1) C none) (h' := (hp.push (PySem.W.kdv_tup us)).push (PySem.HandSPX.excO C hp.objs.size)) kk hsz (exo_ok (by heap_get))
  have r2 : Vals (V.ref (hp.objs.size + 1) :: (vs ++ dvs)) (Value.ref (hp.objs.size + 1) :: (us ++ ds)) := .cons rfl (r1.append hd)
  have hl : (Value.ref (hp.objs.size + 1) :: us ++ ds).length = ps.length := by
    have z := r2.length
    rw [F1.len _ _ _ _ hq] at z
    exact z.symm
  have hus : us.length ≤ sizeLine := by
    rw [← Paired.length r1, sizeLine_eq]
    omega
  refine wpAny_call (PySem.HandSPX.call_own PySem.F.excBase_ValueError (fun Y => PySem.HandSPX.refsVE_contains Y bm hbm) (I1.kIn _ _ hC) (PySem.W.looks_findIn I1.kIn iC) (fun self => PySem.W.bind_fn I1.kIn self tI) hus
    (codeAny_mono (F1.run _ X.stack _ _ ⟨Value.ref (hp.objs.size + 1) :: us, []⟩ (Value.ref (hp.objs.size + 1) :: (us ++ ds)) _ _ (fun _ _ _ => False) (hr.make C us []) (I2.env0.make C us []) (hb _ (Value.ref (hp.objs.size + 1) :: us) I2.kIn hl) r2 hq) fun r s' hq' => ?_))
  match r, hq' with
  | .error er, hq' => exact hx pins σ _ _ er s' I2 hq'
  | .ok .next, hq' => exact False.elim hq'
  | .ok .brk, hq' => exact False.elim hq'
  | .ok .cont, hq' => exact False.elim hq'
  | .ok (.ret u), hq' =>
    obtain ⟨v, H2, os2, bare2, un2, hok2, rv, ev, d, fs, ea, ed, hd1, q2⟩ := hq'
    subst ev
    obtain ⟨h2, g2, d2, t2, os'⟩ := s'
    obtain ⟨t0, G, J, kG, ge, hoe, na⟩ := mk_end0 (d2 := d2) (t2 := t2) I1 hsz kk un2 hok2 os2 bare2 ea ed hd1
    exact ⟨rv, ⟨_, _, _, ⟨G, g2, d2, t2, os'⟩, _, .ref C, some d, rfl, J, kG, ge, hoe, ⟨rfl, rfl, fun vs z => by cases z; rfl⟩, rfl, rfl, na, rfl, bare2, raises_own T.exC T.tyC, q2⟩⟩
def sRaise1 (x f : Str) (sa : SA) : SS := fun ρ => match sa ρ with
  | .ok vs ρ1 => match imms vs with
    | some [d] => .exc ⟨x, [(f, d)]⟩ ρ1
    | _ => .fail
  | .exc y ρ1 => .exc y ρ1
  | .fail => .fail
def sRaise2 (x f g : Str) (sa : SA) : SS := fun ρ => match sa ρ with
  | .ok vs ρ1 => match imms vs with
    | some [d, e] => .exc ⟨x, [(g, e), (f, d)]⟩ ρ1
    | _ => .fail
  | .exc y ρ1 => .exc y ρ1
  | .fail => .fail
/-- names laid: what stands behind -/
theorem laid_env {P : Nat → Option V} {H H1 : Hp} {F F1 : Nat → FS} {S : FS} {ρ1 : Env} {σ : L2.St} {dx : Addr} {o : HO} (E1 : EnvR K P H1 F1 ρ1 σ) (f1 : Frm (PF.Un F) (fun a => PF.Un F1 a ∨ S a) H H1) (hd : H1 dx = none) :
    EnvR K P (upd H1 dx o) F1 ρ1 σ ∧ Frm (PF.Un F) (PF.Un F1) H (upd H1 dx o) ∧ Ext H1 (upd H1 dx o) := by
  have g : Grow (fun _ => False) H1 (upd H1 dx o) := ⟨fun b o' q => by rw [upd_ne (ne_of_none q hd)]; exact q, fun _ z => z.elim⟩
  exact ⟨E1.grow g, (f1.less fun _ z => .inl z).trans ((Frm.of_grow (U := PF.Un F1) g).less fun _ z => .inl z), g.ext⟩
theorem psd_raise1 {k : Nat} {x f : Str} {e : Expr} {sa : SA} {p pos pos2 : Pos} (C : Ctx X W k) (N : XcI1 X.K X.mg x f) (ha : PAd X W [e] sa) (hk : 2 ≤ k := by decide) (hg : Gl X x := by rfl) (hdb : (x == ("__debug__" : Str)) = false := by decide)
    (he : starEach (e :: []) X.env = (false, eval e X.env) :: starEach [] X.env := by rfl) (hpl : (backTo pos (starEach [] X.env)).any (·.1) = false := by rfl) : PSd X W (.Raise (some (.Call (.Name x p) [e] [] pos)) none pos2) (sRaise1 x f sa) := by
  obtain ⟨ta, a1, a2⟩ := ha
  refine ⟨_, L2N.ps_raise C.calm C.tk (pmk_oexN N.T N.i N.t (N.ok (P := X.prog) (w := X.w) (base := X.base)) (C.room.mono hk) N.b .nil pass0 hg N.m a1 hdb he hpl), fun P σ H F ρ D E h => ?_⟩
  refine a2 P σ H F ρ _ E ?_
  unfold sRaise1 at h
  cases ea : sa ρ with
  | fail => rw [ea] at h; exact h
  | exc y ρ1 => rw [ea] at h; exact fun cls d H1 F1 E1 r f => h cls d σ H1 F1 E1 r f
  | ok vs ρ1 =>
    rw [ea] at h
    dsimp only at h
    intro us H1 F1 S E1 R1 dj f1
    cases ei : imms vs with
    | none => rw [ei] at h; exact h.elim
    | some ds =>
      rw [ei] at h
      have rs := imms_ok ei R1
      cases ds with
      | nil => exact h.elim
      | cons d ds =>
        cases ds with
        | cons _ _ => exact h.elim
        | nil =>
          obtain ⟨v, r, rfl, rv, rr⟩ := rs
          cases rr
          refine ⟨by simp, fun a ha' => ⟨a, N.C, v, rfl, N.T, N.n, upd_same, fun dx h1 h2 => ⟨rfl, dx, [(f, v)], upd_same, by rw [upd_ne h2, upd_same], ?_, ?_⟩⟩⟩
          · rw [upd_ne h2] at h1; exact h1
          · have h1' : H1 dx = none := by rw [upd_ne h2] at h1; exact h1
            rw [del_upd ha' h2]
            obtain ⟨E2, f2, x2⟩ := laid_env (o := .xd [(f, v)]) E1 f1 h1'
            exact h (.ref N.C) (some dx) σ _ F1 E2 ⟨N.C, N.m, rfl, .inr ⟨dx, [(f, v)], rfl, upd_same, v, [], rfl, rv.mono x2, rfl⟩⟩ f2
theorem psd_raise2 {k : Nat} {x f g : Str} {e e2 : Expr} {sa : SA} {p pos pos2 : Pos} (C : Ctx X W k) (N : XcI2 X.K X.mg x f g) (ha : PAd X W [e, e2] sa) (hk : 2 ≤ k := by decide) (hg : Gl X x := by rfl) (hdb : (x == ("__debug__" : Str)) = false := by decide)
    (he : starEach (e :: [e2]) X.env = (false, eval e X.env) :: starEach [e2] X.env := by rfl) (hpl : (backTo pos (starEach [e2] X.env)).any (·.1) = false := by rfl) : PSd X W (.Raise (some (.Call (.Name x p) [e, e2] [] pos)) none pos2) (sRaise2 x f g sa) := by
  obtain ⟨ta, a1, a2⟩ := ha
  refine ⟨_, L2N.ps_raise C.calm C.tk (pmk_oexN N.T N.i N.t (N.ok (P := X.prog) (w := X.w) (base := X.base)) (C.room.mono hk) N.b .nil pass0 hg N.m a1 hdb he hpl), fun P σ H F ρ D E h => ?_⟩
  refine a2 P σ H F ρ _ E ?_
  unfold sRaise2 at h
  cases ea : sa ρ with
  | fail => rw [ea] at h; exact h
  | exc y ρ1 => rw [ea] at h; exact fun cls d H1 F1 E1 r f => h cls d σ H1 F1 E1 r f
  | ok vs ρ1 =>
    rw [ea] at h
    dsimp only at h
    intro us H1 F1 S E1 R1 dj f1
    cases ei : imms vs with
    | none => rw [ei] at h; exact h.elim
    | some ds =>
      rw [ei] at h
      have rs := imms_ok ei R1
      match ds, rs, h with
      | [], _, h => exact h.elim
      | [_], _, h => exact h.elim
      | _ :: _ :: _ :: _, _, h => exact h.elim
      | [d1, d2], rs, h =>
        obtain ⟨v, r, rfl, rv, u, r', rfl, ru, rr⟩ := rs
        cases rr
        refine ⟨by simp, fun a ha' => ⟨a, N.C, v, u, rfl, N.T, N.n, N.n2, upd_same, fun dx h1 h2 => ⟨rfl, dx, [(g, u), (f, v)], by rw [upd_ne (Ne.symm h2), upd_same], upd_same, ?_, ?_⟩⟩⟩
        · rw [upd_ne h2] at h1; exact h1
        · have h1' : H1 dx = none := by rw [upd_ne h2] at h1; exact h1
          rw [del_upd2 ha' h2]
          obtain ⟨E2, f2, x2⟩ := laid_env (o := .xd [(g, u), (f, v)]) E1 f1 h1'
          exact h (.ref N.C) (some dx) σ _ F1 E2 ⟨N.C, N.m, rfl, .inr ⟨dx, [(g, u), (f, v)], rfl, upd_same, u, _, rfl, ru.mono x2, v, [], rfl, rv.mono x2, rfl⟩⟩ f2
end
end PF

/-! try .. except -/
namespace PF
open PySem PySem.Spec PyProof.Rows
open L2
/-- one of the class a is one of the class b -/
def subX (a b : Str) : Bool := a == b || b == ("SideError" : Str) || b == ("ValueError" : Str)
/-- behind the suite the name is gone -/
def offS (i : Nat) : SOut → SOut
  | .nx ρ => if i < ρ.length then .nx (ρ.set i .non) else .fail
  | .bk ρ => if i < ρ.length then .bk (ρ.set i .non) else .fail
  | .ct ρ => if i < ρ.length then .ct (ρ.set i .non) else .fail
  | .rt (.imm d) ρ => if i < ρ.length then .rt (.imm d) (ρ.set i .non) else .fail
  | .rt (.own d) ρ => if i < ρ.length then .rt (.own d) (ρ.set i .non) else .fail
  | .rt (.ref _) _ => .fail
  | .exc _ _ => .fail
  | .fail => .fail
/-- what comes, wherever the exception stands -/
noncomputable def uni (f : Addr → Option Addr → SOut) : SOut := by
  classical exact if h : ∃ o, ∀ a d, f a d = o then h.choose else .fail
theorem uni_eq {f : Addr → Option Addr → SOut} {o : SOut} (h : ∀ a d, f a d = o) : uni f = o := by
  classical
  have hx : ∃ o, ∀ a d, f a d = o := ⟨o, h⟩
  unfold uni
  rw [dif_pos hx, ← hx.choose_spec 0 none, h]
theorem uni_ok {f : Addr → Option Addr → SOut} (h : uni f ≠ .fail) (a : Addr) (d : Option Addr) : f a d = uni f := by
  classical
  by_cases hx : ∃ o, ∀ a d, f a d = o
  · have e : uni f = hx.choose := by unfold uni; rw [dif_pos hx]
    rw [e]; exact hx.choose_spec a d
  · exact absurd (by unfold uni; rw [dif_neg hx]) h
abbrev HS := Addr → Option Addr → Str → SS
/-- except cn as the name in slot i -/
noncomputable def hdl (raised : List Str) (cn : Str) (i : Nat) (hs : HS) (x : Xc) (ρ : Env) : SOut :=
  if raised.contains x.cls then match ρ[i]? with
    | some .non => if subX x.cls cn then uni (fun a d => offS i (hs a d x.cls (ρ.set i (.xcp a d x.fs)))) else .exc x ρ
    | _ => .fail
  else .fail
noncomputable def sTry (raised : List Str) (cn : Str) (i : Nat) (body : SS) (hs : HS) : SS := fun ρ => match body ρ with
  | .exc x ρ1 => hdl raised cn i hs x ρ1
  | .nx ρ1 => .nx ρ1
  | .rt v ρ1 => .rt v ρ1
  | .bk ρ1 => .bk ρ1
  | .ct ρ1 => .ct ρ1
  | .fail => .fail
def TSof (K : PySem.W.Frag) (mg : Str → Option Value) (W : WX) (ss : SS) : TS := fun D σ H => ∃ P F ρ, EnvR K P H F ρ σ ∧ PostS K mg P W D F H (ss ρ)
section
variable {X : Cx} {W : WX} {K : PySem.W.Frag} {mg : Str → Option Value}
theorem PBd.canon {b : List Stmt} {ss : SS} (h : PBd X W b ss) : PSs X b (TSof X.K X.mg W ss) := by
  obtain ⟨t, h1, h2⟩ := h
  exact ⟨fun pins s σ H D I ⟨P, F, ρ, E, q⟩ => h1.run pins s σ H D I (h2 P σ H F ρ D E q)⟩
abbrev WN : WX := fun _ _ _ _ => False
/-- the suite's reading -/
def tHd (K : PySem.W.Frag) (mg : Str → Option Value) (raised : List Str) (hs : HS) : Addr → Value → Option Addr → TS := fun a cls d D σ H => ∃ xn, xn ∈ raised ∧ mg xn = some cls ∧ TSof K mg WN (hs a d xn) D σ H
theorem EnvR.off {P : Nat → Option V} {H : Hp} {F : Nat → FS} {ρ : Env} {σ : L2.St} (E : EnvR K P H F ρ σ) {i : Nat} {s : Sl} {o : Option V} (hi : i < ρ.length) (hs : SlR K H (fun _ => False) (P i) s o) : ∃ F', EnvR K P H F' (ρ.set i s) (σ.set i o) ∧ ∀ a, PF.Un F' a → PF.Un F a :=
  ⟨_, E.put (S := fun _ => False) hi hs (fun _ _ _ z => z) (fun _ z => z.elim), fun a z => (PF.Un.put z).elim id False.elim⟩
/-- what is wished behind the suite -/
theorem off_post {P : Nat → Option V} {D : Ends} {F F1 : Nat → FS} {H H1 : Hp} {i : Nat} {o : SOut} (f1 : Frm (PF.Un F) (PF.Un F1) H H1) (h : PostS K mg P W D F H (offS i o)) :
    PostS K mg P WN { nx := fun σ' H' => D.nx (σ'.set i none) H', rt := D.rt, bk := fun σ' H' => D.bk (σ'.set i none) H', ct := fun σ' H' => D.ct (σ'.set i none) H' } F1 H1 o := by
  cases o with
  | nx ρ =>
    intro σ2 H2 F2 E2 f2
    unfold offS at h
    dsimp only at h
    split at h
    · next hl =>
      obtain ⟨F3, E3, s3⟩ := E2.off (s := .non) (o := none) hl trivial
      exact h _ _ F3 E3 ((f1.trans f2).less s3)
    · exact h.elim
  | bk ρ =>
    intro σ2 H2 F2 E2 f2
    unfold offS at h
    dsimp only at h
    split at h
    · next hl =>
      obtain ⟨F3, E3, s3⟩ := E2.off (s := .non) (o := none) hl trivial
      exact h _ _ F3 E3 ((f1.trans f2).less s3)
    · exact h.elim
  | ct ρ =>
    intro σ2 H2 F2 E2 f2
    unfold offS at h
    dsimp only at h
    split at h
    · next hl =>
      obtain ⟨F3, E3, s3⟩ := E2.off (s := .non) (o := none) hl trivial
      exact h _ _ F3 E3 ((f1.trans f2).less s3)
    · exact h.elim
  | rt v ρ =>
    intro u σ2 H2 F2 S E2 r dj f2
    cases v with
    | imm d =>
      unfold offS at h
      dsimp only at h
      split at h
      · next hl =>
        obtain ⟨F3, E3, s3⟩ := E2.off (s := .non) (o := none) hl trivial
        exact h u _ _ F3 S E3 r (fun j a z => by obtain ⟨j', z'⟩ := s3 a ⟨j, z⟩; exact dj j' a z') ((f1.trans f2).less fun a z => z.imp (s3 a) id)
      · exact h.elim
    | own d =>
      unfold offS at h
      dsimp only at h
      split at h
      · next hl =>
        obtain ⟨F3, E3, s3⟩ := E2.off (s := .non) (o := none) hl trivial
        exact h u _ _ F3 S E3 r (fun j a z => by obtain ⟨j', z'⟩ := s3 a ⟨j, z⟩; exact dj j' a z') ((f1.trans f2).less fun a z => z.imp (s3 a) id)
      · exact h.elim
    | ref j => exact h.elim
  | exc x ρ => exact h.elim
  | fail => exact h.elim
theorem psd_try_as {k : Nat} {raised : List Str} {x n cn : Str} {c : Value} {i : Nat} {body suite : List Stmt} {b₀ : Stmt} {sb : SS} {hs : HS} {np pos pos' : Pos} (C : Ctx X W k)
    (hx : ∀ r ∈ raised, ∀ cls, X.mg r = some cls → PySem.W.exmOne X.K cls c = some (subX r cn))
    (hc : Names X x c) (hi : X.N[i]? = some n) (hln : X.env.kindOf n = some .local)
    (hb : ∀ (W' : WX) (pn : List (Addr × Obj)) (xe : Value → Shared → Prop), Ctx (X.tr pn xe) W' k → PBd (X.tr pn xe) W' body sb)
    (hh : ∀ (a : Addr) (oe : Obj) (cls : Value) (d : Option Addr) (pn : List (Addr × Obj)) (xn : Str), Zc cls d oe → (∃ vs, oe.data = .fields vs) → xn ∈ raised → X.mg xn = some cls → PBd (X.suite a ((a, oe) :: pn)) WN (b₀ :: suite) (hs a d xn))
    (hst : X.stack = X.env :: X.outer := by rfl) (hfr : X.env.frame = some X.env.locals := by rfl) :
    PSd X W (.Try body [.ExceptHandler (some (.Name x np)) (some n) (b₀ :: suite) pos'] [] [] pos) (sTry raised cn i sb hs) := by
  refine ⟨_, L2N.ps_try_as hst hfr C.nd hi hln hc C.tk (tb := fun W' => TSof X.K X.mg W' sb) (ts := tHd X.K X.mg raised hs) (fun W' pn xe tk po => (hb W' pn xe ⟨tk, po, C.calm, C.nd, C.room⟩).canon)
    (fun a oe cls d pn hz hf => ⟨fun pins s σ H D I h => ?_⟩), fun P σ H F ρ D E h => ?_⟩
  · obtain ⟨xn, hm, hg, q⟩ := h
    exact (hh a oe cls d pn xn hz.zc hf hm hg).canon.run pins s σ H D I q
  · refine ⟨P, F, ρ, E, ?_⟩
    unfold sTry at h
    cases eb : sb ρ with
    | nx ρ1 => rw [eb] at h; exact h
    | bk ρ1 => rw [eb] at h; exact h
    | ct ρ1 => rw [eb] at h; exact h
    | rt v ρ1 => rw [eb] at h; exact h
    | fail => rw [eb] at h; exact h
    | exc xc ρ1 =>
      rw [eb] at h
      dsimp only at h
      unfold hdl at h
      intro cls d σ' H' F' E' r f'
      split at h
      · next hm =>
        have hm' : xc.cls ∈ raised := by simpa using hm
        obtain ⟨Cc, hC, rfl, hf⟩ := r
        split at h
        · next hn =>
          refine ⟨subX xc.cls cn, hx _ hm' _ hC, fun hsub a na => ?_, fun hsub => ?_⟩
          · rw [if_pos hsub] at h
            have hu : uni (fun a d => offS i (hs a d xc.cls (ρ1.set i (.xcp a d xc.fs)))) ≠ .fail := fun z => by rw [z] at h; exact h
            have e := uni_ok hu a d
            obtain ⟨F2, E2, s2⟩ := E'.off (s := .xcp a d xc.fs) (o := some (.ref a)) (lt_of_get hn) ⟨rfl, hf⟩
            refine ⟨xc.cls, hm', hC, P, F2, _, E2, ?_⟩
            rw [← e] at h
            exact off_post (f'.less s2) h
          · rw [if_neg (by rw [hsub]; exact Bool.false_ne_true)] at h
            exact h _ d σ' H' F' E' ⟨Cc, hC, rfl, hf⟩ f'
        · exact h.elim
      · exact h.elim
end
end PF

/-! a caught exception, looked at -/
namespace PF
open PySem PySem.Spec PyProof.Rows
open L2
section
variable {X : Cx} {W : WX} {K : PySem.W.Frag} {mg : Str → Option Value}
theorem RIf.look {H : Hp} {f : Str} {d : D} : ∀ {fs : List (Str × D)} {vs : List (Str × V)}, RIf K H fs vs → fs.lookup f = some d → ∃ v, vs.lookup f = some v ∧ RI K H d v
  | [], _, _, h => nomatch h
  | (k, e) :: fs, _, ⟨v, r, rfl, h2, h3⟩, h => by
    rw [List.lookup_cons] at h ⊢
    cases q : f == k with
    | true =>
      rw [q] at h
      cases h
      exact ⟨v, rfl, h2⟩
    | false =>
      rw [q] at h
      exact RIf.look h3 h
/-! ### e.f -/
def eXf (cn f : Str) (a : Addr) (d : Option Addr) (xn : Str) (i : Nat) : SE := fun ρ => match ρ[i]? with
  | some (.xcp a' d' fs) => if a' = a ∧ d' = d ∧ xn = cn then (match fs.lookup f with
      | some v => .ok (.imm v) ρ
      | none => .fail) else .fail
  | _ => .fail
theorem pd_xf {C a : Addr} {oe : Obj} {cls : Value} {d : Option Addr} {pn : List (Addr × Obj)} {cn f xn n : Str} {i : Nat} {p pos : Pos} (T : XfC X.K C) (hC : X.mg cn = some (.ref C)) (hno : PySem.W.findIn X.K (.ref C) f = some none) (hz : Zc cls d oe) (hf : ∃ vs, oe.data = .fields vs) (hcls : X.mg xn = some cls)
    (hN : X.N[i]? = some n := by rfl) (hv : Vis X.env.scope n := by first | exact Or.inl rfl | exact Or.inr (Or.inl rfl) | exact Or.inr (Or.inr rfl)) (hd : (n == ("__debug__" : Str)) = false := by decide) (hcd : (n == ("__classdict__" : Str)) = false := by decide)
    (hb : attributeBase (.Name n p) f X.env (eval (.Name n p) X.env) = eval (.Name n p) X.env := by rfl) :
    PEd (X.suite a ((a, oe) :: pn)) W (.Attribute (.Name n p) f pos) (eXf cn f a d xn i) := by
  refine ⟨_, pe_xf T hno hz hf (pe_var hN hv hd hcd) hb, fun P σ H F ρ Q E h => ?_⟩
  unfold eXf at h
  cases q : ρ[i]? with
  | none => rw [q] at h; exact h.elim
  | some s =>
    rw [q] at h
    cases s with
    | xcp a' d' fs =>
      dsimp only at h
      split at h
      · next hh =>
        obtain ⟨rfl, rfl, rfl⟩ := hh
        obtain ⟨z1, z2⟩ := E.sl i _ q
        cases hl : fs.lookup f with
        | none => rw [hl] at h; exact h.elim
        | some v =>
          rw [hl] at h
          rcases z2 with ⟨z2, _⟩ | ⟨dd, vs, e1, e2, e3⟩
          · rw [z2] at hl; cases hl
          · obtain ⟨u, l1, r1⟩ := e3.look hl
            have ec : cls = .ref C := by rw [hC] at hcls; exact (Option.some.inj hcls).symm
            exact ⟨.ref a', join_some z1, rfl, ec, dd, vs, u, e1, e2, l1, h u H F (fun _ => False) E r1 (fun _ _ _ z => z) (Frm.refl _ _ |>.less fun b z => z.elim id False.elim)⟩
      · exact h.elim
    | non => exact h.elim
    | imm _ => exact h.elim
    | own _ => exact h.elim
    | par _ => exact h.elim
/-! ### isinstance(e, C) -/
def rIsG (K : PySem.W.Frag) (cls : Value) (d : Option Addr) (a : Addr) : List V → Hp → VK → Prop := fun xs H Q => (d = none ∨ ∃ dd vs, d = some dd ∧ H dd = some (.xd vs)) ∧ ∃ b : Bool, Q (.bl b) H ∧
  ((∃ (c : V) (cv : Value), xs = [.ref a, c] ∧ (∀ u, RelV c u → u = cv) ∧ PySem.W.kitOne K cls cv = some b) ∨
    ∃ (t : Addr) (cs : List Addr), xs = [.ref a, .ref t] ∧ H t = some (.tup (cs.map V.ref)) ∧ PySem.W.kitAny K cls (cs.map Value.ref) = some b)
theorem refs_cls : ∀ {cs : List Addr} {us : List Value}, Vals (cs.map V.ref) us → us = cs.map Value.ref
  | [], _, r => by cases r; rfl
  | c :: cs, _, r => by
    cases r with
    | cons r1 r2 => rw [refs_cls r2]; cases r1; rfl
theorem call_isG {D a : Addr} {oe : Obj} {d : Option Addr} {pn : List (Addr × Obj)} (C : ExcC X.K D) (hz : Zc (.ref D) d oe) (hf : ∃ vs, oe.data = .fields vs) : CallR (X.suite a ((a, oe) :: pn)) (.builtin "isinstance") (rIsG X.K (.ref D) d a) := by
  intro pins s σ H xs us Q I r h
  obtain ⟨hd, b, q, h⟩ := h
  obtain ⟨hget, _⟩ := I.pin (a, oe) (List.mem_append.mpr (.inl List.mem_cons_self))
  obtain ⟨vs, hv⟩ := hf
  obtain ⟨od, J⟩ : ∃ od, PySem.W.InstAt s.heap a oe D od := by
    obtain ⟨oc, odi, oda, osl⟩ := oe
    obtain ⟨h1, h2⟩ := hz
    dsimp only at h1 h2 hv
    subst h1 h2 hv
    rcases hd with rfl | ⟨dd, ws, rfl, hdd⟩
    · exact ⟨none, hget, rfl, rfl, trivial⟩
    · obtain ⟨o, ho⟩ := objOk_get (I.hok dd _ hdd)
      exact ⟨some o, hget, rfl, rfl, ho⟩
  obtain ⟨cd, hc, _⟩ := PySem.W.any_some C.hd
  have Z : PySem.W.KitX X.K (.ref a) (.ref D) (fun h => PySem.W.InstAt h a oe D od) := PySem.W.kitx_exc (by rw [hc]; rfl) C.hg C.hk C.hs C.ha C.hn C.ht C.hm
  rcases h with ⟨c, cv, rfl, hcv, e⟩ | ⟨t, cs, rfl, ht, e⟩
  · cases r with
    | cons rx rr =>
      cases rr with
      | cons rt rr =>
        cases rr
        cases rx
        have ec := hcv _ rt
        subst ec
        exact PySem.W.kia_one Z I.kIn J e (fun z => nomatch z) fun tk => ⟨.bl b, H, I.kept (t' := tk) fun _ _ z => z, rfl, q⟩
  · cases r with
    | cons rx rr =>
      cases rr with
      | cons rt rr =>
        cases rr
        cases rx
        cases rt
        obtain ⟨hlen, its, rv, o, ho, hcl, n, hdt⟩ := I.hok t _ ht
        have ei := refs_cls rv
        subst ei
        obtain ⟨oc, odi, oda, osl⟩ := o
        dsimp only at hcl hdt
        subst hcl hdt
        exact PySem.W.kia_tup Z I.kIn J ho e (fun z => nomatch z) fun tk => ⟨.bl b, H, I.kept (t' := tk) fun _ _ z => z, rfl, q⟩
/-- its answer, by the names of the classes -/
def eIsX (ns : List Str) (a : Addr) (d : Option Addr) (xn : Str) (i : Nat) : SE := fun ρ => match ρ[i]? with
  | some (.xcp a' d' _) => if a' = a ∧ d' = d then .ok (.imm (.bl (ns.any fun n => subX xn n))) ρ else .fail
  | _ => .fail
theorem xcp_get {P : Nat → Option V} {H : Hp} {F : Nat → FS} {ρ : Env} {σ : L2.St} {i : Nat} {ns : List Str} {a : Addr} {d : Option Addr} {xn : Str} {Q : V → Hp → Prop} (E : EnvR K P H F ρ σ) (h : PostO K mg P W σ (VlR K σ) Q F H (eIsX ns a d xn i ρ)) :
    σ[i]? = some (some (.ref a)) ∧ (d = none ∨ ∃ dd vs, d = some dd ∧ H dd = some (.xd vs)) ∧ ∀ H2, Grow (fun _ => False) H H2 → Q (.bl (ns.any fun n => subX xn n)) H2 := by
  unfold eIsX at h
  cases q : ρ[i]? with
  | none => rw [q] at h; exact h.elim
  | some s =>
    rw [q] at h
    cases s with
    | xcp a' d' fs =>
      dsimp only at h
      split at h
      · next hh =>
        obtain ⟨rfl, rfl⟩ := hh
        obtain ⟨z1, z2⟩ := E.sl i _ q
        refine ⟨join_some z1, ?_, fun H2 g => h _ H2 F (fun _ => False) (E.grow g) rfl (fun _ _ _ z => z) (Frm.of_grow g)⟩
        rcases z2 with ⟨_, z2⟩ | ⟨dd, vs, e1, e2, _⟩
        · exact .inl z2
        · exact .inr ⟨dd, vs, e1, e2⟩
      · exact h.elim
    | non => exact h.elim
    | imm _ => exact h.elim
    | own _ => exact h.elim
    | par _ => exact h.elim
/-- what is known of the classes: raised ones, one asked for -/
structure XisK (K : PySem.W.Frag) (mg : Str → Option Value) (raised : List Str) (n : Str) (cv : Value) : Prop where
  k : ∀ r ∈ raised, ∀ cls, mg r = some cls → PySem.W.kitOne K cls cv = some (subX r n)
def RsC (K : PySem.W.Frag) (mg : Str → Option Value) (raised : List Str) : Prop := ∀ r ∈ raised, ∃ D, mg r = some (.ref D) ∧ ExcC K D
theorem pd_isC {a : Addr} {oe : Obj} {cls : Value} {d : Option Addr} {pn : List (Addr × Obj)} {raised : List Str} {xn n y : Str} {i : Nat} {v : V} {cv : Value} {p p1 p2 pos : Pos} (hz : Zc cls d oe) (hf : ∃ vs, oe.data = .fields vs) (hm : xn ∈ raised) (hcls : X.mg xn = some cls) (R : RsC X.K X.mg raised) (N : XisK X.K X.mg raised y cv)
    (hy : PE (X.suite a ((a, oe) :: pn)) (.Name y p2) (tC v)) (hv : ∀ u, RelV v u → u = cv) (hmI : X.mg "isinstance" = none)
    (hN : X.N[i]? = some n := by rfl) (hvi : Vis X.env.scope n := by first | exact Or.inl rfl | exact Or.inr (Or.inl rfl) | exact Or.inr (Or.inr rfl)) (hd : (n == ("__debug__" : Str)) = false := by decide) (hcd : (n == ("__classdict__" : Str)) = false := by decide) (hg : Gl X "isinstance" := by rfl)
    (hs : starEach (.Name n p1 :: [.Name y p2]) X.env = (false, eval (.Name n p1) X.env) :: starEach [.Name y p2] X.env := by rfl) (hs2 : starEach (.Name y p2 :: []) X.env = (false, eval (.Name y p2) X.env) :: starEach [] X.env := by rfl) (hpl : (backTo pos (starEach [.Name y p2] X.env)).any (·.1) = false := by rfl) :
    PEd (X.suite a ((a, oe) :: pn)) W (.Call (.Name "isinstance" p) [.Name n p1, .Name y p2] [] pos) (eIsX [y] a d xn i) := by
  obtain ⟨D, hD, EC⟩ := R xn hm
  have ec : cls = .ref D := by rw [hD] at hcls; exact (Option.some.inj hcls).symm
  subst ec
  refine ⟨_, pe_callB (call_isG EC hz hf) hg hmI rfl (pa_cons (pe_var hN hvi hd hcd) (pa_cons hy pa_nil hs2) hs) (by decide) (by decide) hs hpl, fun P σ H F ρ Q E h => ?_⟩
  obtain ⟨h1, h2, h3⟩ := xcp_get E h
  have e := N.k xn hm _ hcls
  have ea : ([y].any fun n => subX xn n) = subX xn y := by rw [List.any_cons, List.any_nil, Bool.or_false]
  rw [ea] at h3
  exact ⟨.ref a, h1, h2, _, h3 H (Grow.refl fun _ z => z), .inl ⟨v, cv, rfl, hv, e⟩⟩
end
end PF

/-! [f, g][i](..) -/
namespace PF
open PySem PySem.Spec PyProof.Rows
open L2
noncomputable def cpkK (g1 g2 : List Ar → FOut) (a : SA) : Vl → PF.Env → Out Vl
  | .imm (.int i), ρ1 => if i = 0 then eCall g1 a ρ1 else if i = 1 then eCall g2 a ρ1 else .fail
  | _, _ => .fail
noncomputable def ePkC (g1 g2 : List Ar → FOut) (c : SE) (a : SA) : SE := fun ρ => (c ρ).bind (cpkK g1 g2 a)
section
variable {X : Cx} {W : WX} {K : PySem.W.Frag} {mg : Str → Option Value}
end
/-! ### rows for simp -/
theorem x_cpk {g1 g2 : List Ar → FOut} {c : SE} {a : SA} {ρ : PF.Env} : ePkC g1 g2 c a ρ = (c ρ).bind (cpkK g1 g2 a) := rfl
theorem x_cpk0 {g1 g2 : List Ar → FOut} {a : SA} {ρ : PF.Env} : cpkK g1 g2 a (.imm (.int 0)) ρ = eCall g1 a ρ := rfl
theorem x_cpk1 {g1 g2 : List Ar → FOut} {a : SA} {ρ : PF.Env} : cpkK g1 g2 a (.imm (.int 1)) ρ = eCall g2 a ρ := rfl
end PF

namespace PF
open PySem L2
section
variable {X : Cx} {W : WX} {K : PySem.W.Frag} {mg : Str → Option Value}

/-! ### [a list of our own, a tuple][i]: one of the two -/
/-! ### a list of our own, lent for reading while a piece of text runs -/
def TX (H H' : Hp) : Prop := (∀ b xs, H b = some (.tup xs) → H' b = some (.tup xs)) ∧ ∀ b o xs, H b = some (.frz o (.tup xs)) → H' b = some (.frz o (.tup xs))
theorem TX.tup {H H' : Hp} (t : TX H H') {l : List D} {a : Addr} {vs : List V} (h : TupR l H a vs) : TupR l H' a vs := by
  obtain ⟨o, q, z⟩ := h
  refine ⟨o, ?_, z⟩
  unfold tupHO at q ⊢
  split at q
  · rename_i c
    rw [if_pos c]; exact t.2 _ _ _ q
  · rename_i c
    rw [if_neg c]; exact t.1 _ _ q
section
variable {H H' : Hp}
end
end
end PF

/-! xs.insert(i, d) -/
namespace PF
open PySem PySem.Spec PyProof.Rows
open L2
section
variable {X : Cx} {W : WX} {K : PySem.W.Frag} {mg : Str → Option Value}
def insK2 (i : Nat) (z : Int) (d : D) (ρ : PF.Env) : Option D → SOut
  | some (.lst l) => if l.length < big ∧ 0 ≤ z ∧ small62 z = true then (match reS i (.lst (l.take z.toNat ++ d :: l.drop z.toNat)) ρ with
      | some ρ2 => .nx ρ2
      | none => .fail) else .fail
  | _ => .fail
def insK (i : Nat) : Out (List Vl) → SOut
  | .ok [.imm (.int z), .imm d] ρ => insK2 i z d ρ (owS i ρ)
  | .exc x ρ => .exc x ρ
  | _ => .fail
def insK0 (i : Nat) (sa : SA) (ρ : PF.Env) : Option D → SOut
  | some (.lst _) => insK i (sa ρ)
  | _ => .fail
def sIns (i : Nat) (sa : SA) : SS := fun ρ => insK0 i sa ρ (owS i ρ)
end
/-! ### rows for simp -/
theorem x_ins {i : Nat} {sa : SA} {ρ : PF.Env} : sIns i sa ρ = insK0 i sa ρ (owS i ρ) := rfl
theorem x_ins0 {i : Nat} {sa : SA} {ρ : PF.Env} {l : List D} : insK0 i sa ρ (some (.lst l)) = insK i (sa ρ) := rfl
theorem x_ins1 {i : Nat} {z : Int} {d : D} {ρ : PF.Env} : insK i (.ok [.imm (.int z), .imm d] ρ) = insK2 i z d ρ (owS i ρ) := rfl
theorem x_ins2 {i : Nat} {z : Int} {d : D} {ρ : PF.Env} {l : List D} (h : l.length < big ∧ 0 ≤ z ∧ small62 z = true) : insK2 i z d ρ (some (.lst l)) = nxK (reS i (.lst (l.take z.toNat ++ d :: l.drop z.toNat)) ρ) := by
  unfold insK2
  dsimp only
  rw [if_pos h]
  cases reS i (.lst (l.take z.toNat ++ d :: l.drop z.toNat)) ρ <;> rfl
end PF
namespace PF
open PySem
/-- an own exception class that is only named -/
structure XcM (K : PySem.W.Frag) (mg : Str → Option Value) (x : Str) where
  C : Addr
  m : mg x = some (.ref C)
def initOf : Stmt → Stmt
  | .ClassDef (body := b) .. => b.getD 0 (.Pass ⟨0, 0, 0, 0⟩)
  | s => s
end PF

/-! rows for simp: raise, try -/
namespace PF
open PySem L2
theorem x_rz0 {x : Str} {ρ : PF.Env} : sRaise0 x ρ = .exc ⟨x, []⟩ ρ := rfl
def rz1K (x f : Str) : Out (List Vl) → SOut
  | .ok vs ρ1 => match imms vs with
    | some [d] => .exc ⟨x, [(f, d)]⟩ ρ1
    | _ => .fail
  | .exc y ρ1 => .exc y ρ1
  | .fail => .fail
theorem x_rz1 {x f : Str} {sa : SA} {ρ : PF.Env} : sRaise1 x f sa ρ = rz1K x f (sa ρ) := by
  unfold sRaise1
  cases sa ρ <;> rfl
theorem x_rz11 {x f : Str} {d : D} {ρ : PF.Env} : rz1K x f (.ok [.imm d] ρ) = .exc ⟨x, [(f, d)]⟩ ρ := rfl
def rz2K (x f g : Str) : Out (List Vl) → SOut
  | .ok vs ρ1 => match imms vs with
    | some [d, e] => .exc ⟨x, [(g, e), (f, d)]⟩ ρ1
    | _ => .fail
  | .exc y ρ1 => .exc y ρ1
  | .fail => .fail
theorem x_rz2 {x f g : Str} {sa : SA} {ρ : PF.Env} : sRaise2 x f g sa ρ = rz2K x f g (sa ρ) := by
  unfold sRaise2
  cases sa ρ <;> rfl
theorem x_rz21 {x f g : Str} {d e : D} {ρ : PF.Env} : rz2K x f g (.ok [.imm d, .imm e] ρ) = .exc ⟨x, [(g, e), (f, d)]⟩ ρ := rfl
noncomputable def tryK (raised : List Str) (cn : Str) (i : Nat) (hs : HS) : SOut → SOut
  | .exc x ρ1 => hdl raised cn i hs x ρ1
  | .nx ρ1 => .nx ρ1
  | .rt v ρ1 => .rt v ρ1
  | .bk ρ1 => .bk ρ1
  | .ct ρ1 => .ct ρ1
  | .fail => .fail
theorem x_try {raised : List Str} {cn : Str} {i : Nat} {hs : HS} {b : SS} {ρ : PF.Env} : sTry raised cn i b hs ρ = tryK raised cn i hs (b ρ) := by
  unfold sTry
  cases b ρ <;> rfl
theorem x_tryn {raised : List Str} {cn : Str} {i : Nat} {hs : HS} {ρ : PF.Env} : tryK raised cn i hs (.nx ρ) = .nx ρ := rfl
theorem x_tryr {raised : List Str} {cn : Str} {i : Nat} {hs : HS} {v : Vl} {ρ : PF.Env} : tryK raised cn i hs (.rt v ρ) = .rt v ρ := rfl
theorem x_trye {raised : List Str} {cn : Str} {i : Nat} {hs : HS} {x : Xc} {ρ : PF.Env} : tryK raised cn i hs (.exc x ρ) = hdl raised cn i hs x ρ := rfl
def isxK (ns : List Str) (a : Addr) (d : Option Addr) (xn : Str) (ρ : PF.Env) : Option Sl → Out Vl
  | some (.xcp a' d' _) => if a' = a ∧ d' = d then .ok (.imm (.bl (ns.any fun n => subX xn n))) ρ else .fail
  | _ => .fail
theorem x_isx {ns : List Str} {a : Addr} {d : Option Addr} {xn : Str} {i : Nat} {ρ : PF.Env} : eIsX ns a d xn i ρ = isxK ns a d xn ρ ρ[i]? := rfl
theorem x_isx1 {ns : List Str} {a : Addr} {d : Option Addr} {xn : Str} {fs : List (Str × D)} {ρ : PF.Env} : isxK ns a d xn ρ (some (.xcp a d fs)) = .ok (.imm (.bl (ns.any fun n => subX xn n))) ρ := if_pos ⟨rfl, rfl⟩
def xfK (cn f : Str) (a : Addr) (d : Option Addr) (xn : Str) (ρ : PF.Env) : Option Sl → Out Vl
  | some (.xcp a' d' fs) => if a' = a ∧ d' = d ∧ xn = cn then (match fs.lookup f with
      | some v => .ok (.imm v) ρ
      | none => .fail) else .fail
  | _ => .fail
theorem x_xf {cn f : Str} {a : Addr} {d : Option Addr} {xn : Str} {i : Nat} {ρ : PF.Env} : eXf cn f a d xn i ρ = xfK cn f a d xn ρ ρ[i]? := rfl
theorem x_xf1 {cn f : Str} {a : Addr} {d : Option Addr} {fs : List (Str × D)} {ρ : PF.Env} {v : D} (h : fs.lookup f = some v) : xfK cn f a d cn ρ (some (.xcp a d fs)) = .ok (.imm v) ρ := by
  show (if a = a ∧ d = d ∧ cn = cn then (match fs.lookup f with | some v => Out.ok (Vl.imm v) ρ | none => .fail) else .fail) = _
  rw [if_pos ⟨rfl, rfl, rfl⟩, h]
end PF

/-! defs that let out exceptions with a context -/
namespace PF
open PySem PySem.Spec PyProof.Rows
open L2
section
variable {P : Program} {w : World} {K : PySem.W.Frag} {mg : Str → Option Value} {base : Heap}
end
section
variable {X : Cx} {W : WX} {K : PySem.W.Frag} {mg : Str → Option Value}
/-! ### [a, ..] * n -/
/-! ### a place in a list, and a name, out of a pair -/
end
end PF

/-! several except clauses, with names or without -/
namespace PF
open PySem PySem.Spec PyProof.Rows
open L2
/-- behind a suite with a name the name is gone -/
def offE (i : Nat) (D : Ends) : Ends := { nx := fun σ' H' => D.nx (σ'.set i none) H', rt := D.rt, bk := fun σ' H' => D.bk (σ'.set i none) H', ct := fun σ' H' => D.ct (σ'.set i none) H' }
def wManyA (K : PySem.W.Frag) (Wout : WX) (D : Ends) : List (Value × Option Nat × (Addr → Value → Option Addr → TS)) → WX
  | [] => Wout
  | (c, none, ts) :: r => fun cls d σ H => ∃ b, PySem.W.exmOne K cls c = some b ∧ (b = true → ∀ a, H a = none → ts a cls d D σ H) ∧ (b = false → wManyA K Wout D r cls d σ H)
  | (c, some i, ts) :: r => fun cls d σ H => ∃ b, PySem.W.exmOne K cls c = some b ∧ (b = true → ∀ a, H a = none → ts a cls d (offE i D) (σ.set i (some (.ref a))) H) ∧ (b = false → wManyA K Wout D r cls d σ H)
inductive HdsA (X : Cx) : List ExceptHandler → List (Value × Option Nat × (Addr → Value → Option Addr → TS)) → Prop
  | nil : HdsA X [] []
  | cons {x : Str} {c : Value} {ts : Addr → Value → Option Addr → TS} {b₀ : Stmt} {suite : List Stmt} {np pos' : Pos} {hds : List ExceptHandler} {l : List (Value × Option Nat × (Addr → Value → Option Addr → TS))} (hc : Names X x c)
      (hsu : ∀ (a : Addr) (oe : Obj) (cls : Value) (d : Option Addr) (pn : List (Addr × Obj)), L2N.Zn cls d oe → (∃ vs, oe.data = .fields vs) → PSs (X.suite a ((a, oe) :: pn)) (b₀ :: suite) (ts a cls d)) (r : HdsA X hds l) :
      HdsA X (.ExceptHandler (some (.Name x np)) none (b₀ :: suite) pos' :: hds) ((c, none, ts) :: l)
  | as_ {x n : Str} {i : Nat} {c : Value} {ts : Addr → Value → Option Addr → TS} {b₀ : Stmt} {suite : List Stmt} {np pos' : Pos} {hds : List ExceptHandler} {l : List (Value × Option Nat × (Addr → Value → Option Addr → TS))} (hc : Names X x c)
      (hi : X.N[i]? = some n) (hln : X.env.kindOf n = some .local)
      (hsu : ∀ (a : Addr) (oe : Obj) (cls : Value) (d : Option Addr) (pn : List (Addr × Obj)), L2N.Zn cls d oe → (∃ vs, oe.data = .fields vs) → PSs (X.suite a ((a, oe) :: pn)) (b₀ :: suite) (ts a cls d)) (r : HdsA X hds l) :
      HdsA X (.ExceptHandler (some (.Name x np)) (some n) (b₀ :: suite) pos' :: hds) ((c, some i, ts) :: l)
section
open L2N
variable {X : Cx} {body : List Stmt} {h₀ : ExceptHandler} {hds : List ExceptHandler} {l : List (Value × Option Nat × (Addr → Value → Option Addr → TS))} {pos : Pos} {tb : WX → TS} {Wout : WX}
theorem ps_try_manyA (hs : X.stack = X.env :: X.outer) (hf : X.env.frame = some X.env.locals) (hN : X.N.Nodup) (tk : L2N.Takes X Wout)
    (hb : ∀ (W : WX) (pn : List (Addr × Obj)) (xe : Value → Shared → Prop), L2N.Takes (X.tr pn xe) W → PassesOwn (model X.prog X.w) X.A X.env xe → PSs (X.tr pn xe) body (tb W))
    (hh : HdsA X (h₀ :: hds) l) : PS X (.Try body (h₀ :: hds) [] [] pos) (fun D σ H => tb (wManyA X.K Wout D l) D σ H) := by
  refine ⟨fun pins s σ H D I h => ?_⟩
  have ok := I.ok
  have hfr : X.A.frames = some (X.env :: X.outer) := by rw [ok.frames, hs]
  refine wpAny_Try_except ?_
  refine wpAny_mono ((hb (wManyA X.K Wout D l) (X.pn ++ pins) (fun e s₁ => wpAny (model X.prog X.w) X.A (noteFrame e X.env) (fun _ s₂ => wpAny (model X.prog X.w) X.A (setFlight e none) (fun _ s₃ =>
    wpAny (model X.prog X.w) X.A (handleBy e X.env (h₀ :: hds)) (SP X pins D) X.xe s₃) X.xe s₂) X.xe s₁) (fun u s' xx => ?_) PassesOwn.looking).run [] s σ H D (I.toTry _) h) (fun f s1 hsp => ?_) (fun e s1 he => he)
  · -- the catch
    obtain ⟨a, B, sI, pins', σ', H', cls, d, rfl, J', nb, up, sky, na, os, ag, w⟩ := xx
    have J : Inv X pins σ' H' sI := J'.ofTry ok
    have sky' : Sky B (X.env :: X.outer) a (Zn cls d) X.env.locals s'.heap := by rw [← hs]; exact sky
    show wpAny (model X.prog X.w) X.A (noteFrame (.ref a) X.env) _ _ _
    refine Sky.land Zn.steady hfr hf sky' fun h3 fl3 up3 => ?_
    have J3 : Inv X pins σ' H' { s' with heap := h3 } := J.landed nb fl3.1 (up.trans up3) os ag
    obtain ⟨oe3, vs3, he3, hz3, hd3⟩ := fl3.there
    have notFr : ∀ {h : Heap} {o : Obj} {vs : Array Value}, h.FunFrames B (X.env :: X.outer) → h.get? a = some o → o.data = .fields vs → a ∉ frs (X.env :: X.outer) := fun {h o vs} ff e dd hm => by
      obtain ⟨_, o', e', hnf⟩ := ff.mem hm
      rw [e] at e'; cases e'
      exact hnf _ dd
    have nfr := notFr fl3.2.2.1 he3 hd3
    have nL : a ≠ X.env.locals := fun z => nfr (List.mem_filterMap.mpr ⟨X.env, List.mem_cons_self, by rw [hf, z]⟩)
    have nF : a ∉ X.fs := fun hm => by
      obtain ⟨e, he, q⟩ := List.mem_filterMap.mp hm
      exact nfr (List.mem_filterMap.mpr ⟨e, List.mem_cons_of_mem _ he, q⟩)
    have S3 := J3.suite he3 hd3 na nL nF
    have go : ∀ {hds' : List ExceptHandler} {l' : List (Value × Option Nat × (Addr → Value → Option Addr → TS))}, HdsA X hds' l' → wManyA X.K Wout D l' cls d σ' H' →
        wpAny (model X.prog X.w) X.A (handleBy (.ref a) X.env hds') (SP X pins D) X.xe { s' with heap := h3 } := by
      intro hds' l' hk
      induction hk with
      | nil =>
        intro w
        refine wpAny_handleBy_nil ?_
        obtain ⟨k1, k2, k3, oe, vs, T, oT, ts', he, hz, hd, h1, hr⟩ := id fl3
        unfold PySem.passOn
        refine wpAny_bind (wpAny_field he hd h1 ?_)
        rw [if_neg (show ¬ ((Value.ref T == Value.none) = true) from by simp)]
        have fin : wpAny (model X.prog X.w) X.A (setFlight (.ref a) X.env.frame) (fun _ s4 => wpAny (model X.prog X.w) X.A (throw (.ref a) : Sem Flow) (SP X pins D) X.xe s4) X.xe { s' with heap := h3 } := by
          rw [hf]
          refine HandSPX.setFlight_upZ fl3 fun h4 hh4 up4 => wpAny_throw (tk _ _ ?_)
          exact ⟨a, B, sI, pins, σ', H', cls, d, rfl, J, nb, (up.trans up3).trans up4, .inr (.inr (by rw [hs]; exact hh4)), na, os, ag, w⟩
        first
          | exact wpAny_bind (wpAny_pure (wpAny_bind fin))
          | exact wpAny_bind fin
      | @cons x c ts b₀ suite np pos' hds2 l2 hc hsu r ih =>
        intro w
        obtain ⟨b, hb1, hyes, hno⟩ := w
        refine wpAny_handleBy_cons (codeAny_handlers_test ?_) (by intro q; cases q)
        have LT : PySem.W.Looks (model X.prog X.w) h3 (typeOf (.ref a)) cls := fun A Q E s k q => wpAny_typeOf_ref (k _ _ he3) (by rw [hz3.1]; exact q)
        have LM := PySem.W.exm_one (M := model X.prog X.w) (J3.kIn) LT hb1
        have test : ∀ {Q : Value → Shared → Prop} {E : Value → Shared → Prop}, Q c { s' with heap := h3 } → wpAny (model X.prog X.w) (X.A.mark (some (.ref a))) (eval (.Name x np) X.env) Q E { s' with heap := h3 } := fun {Q E} q => by
          obtain ⟨hg, hdbg, hm | ⟨hm, hv, hnn⟩⟩ := hc
          · exact ld_glob (X := X.suite a ((a, oe3) :: (X.pn ++ pins))) S3 hg hm q hdbg
          · exact ld_blt (X := X.suite a ((a, oe3) :: (X.pn ++ pins))) S3 hg hm hv q hnn hdbg
        refine test (LM.here ?_)
        cases b with
        | true =>
          refine codeAny_handlers_suite ?_
          refine HandSPX.lands_againZ fl3 fun h4 fl4 up4 => ?_
          have J4 : Inv X pins σ' H' { s' with heap := h4 } := J.landed nb fl4.1 ((up.trans up3).trans up4) os ag
          obtain ⟨oe4, vs4, he4, hz4, hd4⟩ := fl4.there
          have S4 := J4.suite he4 hd4 na nL nF
          refine wpAny_mono ((hsu a oe4 cls d (X.pn ++ pins) hz4 ⟨_, hd4⟩).run [] _ _ H' _ S4 (hyes rfl a na)) (fun f s6 hsp => ?_) (fun _ _ z => False.elim z)
          cases f with
          | next =>
            obtain ⟨σ6, H6, S6, q6⟩ := hsp
            exact ⟨_, _, S6.unsuite ok, q6⟩
          | brk =>
            obtain ⟨σ6, H6, S6, q6⟩ := hsp
            exact ⟨_, _, S6.unsuite ok, q6⟩
          | cont =>
            obtain ⟨σ6, H6, S6, q6⟩ := hsp
            exact ⟨_, _, S6.unsuite ok, q6⟩
          | ret u =>
            obtain ⟨v6, σ6, H6, S6, r6, q6⟩ := hsp
            exact ⟨_, _, _, S6.unsuite ok, r6, q6⟩
        | false =>
          show wpAny _ X.A (handleBy (.ref a) X.env hds2) _ _ _
          exact ih (hno rfl)
      | @as_ x n i c ts b₀ suite np pos' hds2 l2 hc hi hln hsu r ih =>
        intro w
        obtain ⟨b, hb1, hyes, hno⟩ := w
        have hloc : Loc X.env.scope n := .inl hln
        refine wpAny_handleBy_cons (codeAny_handlers_test ?_) (by intro q; cases q)
        have LT : PySem.W.Looks (model X.prog X.w) h3 (typeOf (.ref a)) cls := fun A Q E s k q => wpAny_typeOf_ref (k _ _ he3) (by rw [hz3.1]; exact q)
        have LM := PySem.W.exm_one (M := model X.prog X.w) (J3.kIn) LT hb1
        have test : ∀ {Q : Value → Shared → Prop} {E : Value → Shared → Prop}, Q c { s' with heap := h3 } → wpAny (model X.prog X.w) (X.A.mark (some (.ref a))) (eval (.Name x np) X.env) Q E { s' with heap := h3 } := fun {Q E} q => by
          obtain ⟨hg, hdbg, hm | ⟨hm, hv, hnn⟩⟩ := hc
          · exact ld_glob (X := X.suite a ((a, oe3) :: (X.pn ++ pins))) S3 hg hm q hdbg
          · exact ld_blt (X := X.suite a ((a, oe3) :: (X.pn ++ pins))) S3 hg hm hv q hnn hdbg
        refine test (LM.here ?_)
        cases b with
        | true =>
          refine codeAny_handlers_suite_as ?_
          refine HandSPX.lands_againZ fl3 fun h4 fl4 up4 => ?_
          have J4 : Inv X pins σ' H' { s' with heap := h4 } := J.landed nb fl4.1 ((up.trans up3).trans up4) os ag
          obtain ⟨oe4, vs4, he4, hz4, hd4⟩ := fl4.there
          have S4 := J4.suite he4 hd4 na nL nF
          refine store_ok (X := X.suite a ((a, oe4) :: (X.pn ++ pins))) (v := .ref a) S4 hN hi hloc rfl (fun s5 S5 => ?_) (.inr hln)
          refine wpAny_mono ((hsu a oe4 cls d (X.pn ++ pins) hz4 ⟨_, hd4⟩).run [] s5 _ H' _ S5 (hyes rfl a na)) (fun f s6 hsp => ?_) (fun _ _ z => False.elim z)
          have end_ : ∀ {σ6 : L2.St} {H6 : Hp} {Q : Shared → Prop}, Inv (X.suite a ((a, oe4) :: (X.pn ++ pins))) [] σ6 H6 s6 → (∀ s7, Inv X pins (σ6.set i none) H6 s7 → Q s7) →
              wpAny (model X.prog X.w) X.A (do bindName X.env n .none; unbindBehindTheSuite X.env n pos') (fun _ s7 => Q s7) X.xe s6 := fun {σ6 H6 Q} S6 hq => gone_ok (S6.unsuite ok) hN hi hln hq
          cases f with
          | next =>
            obtain ⟨σ6, H6, S6, q6⟩ := hsp
            exact end_ S6 fun s7 J7 => ⟨_, _, J7, q6⟩
          | brk =>
            obtain ⟨σ6, H6, S6, q6⟩ := hsp
            exact end_ S6 fun s7 J7 => ⟨_, _, J7, q6⟩
          | cont =>
            obtain ⟨σ6, H6, S6, q6⟩ := hsp
            exact end_ S6 fun s7 J7 => ⟨_, _, J7, q6⟩
          | ret u =>
            obtain ⟨v6, σ6, H6, S6, r6, q6⟩ := hsp
            exact end_ S6 fun s7 J7 => ⟨_, _, _, J7, r6, q6⟩
        | false =>
          show wpAny _ X.A (handleBy (.ref a) X.env hds2) _ _ _
          exact ih (hno rfl)
    exact go hh w
  · cases f with
    | next =>
      obtain ⟨σ', H', J', q⟩ := hsp
      exact wpAny_execs_nil ⟨σ', H', J'.ofTry ok, q⟩
    | brk =>
      obtain ⟨σ', H', J', q⟩ := hsp
      exact ⟨σ', H', J'.ofTry ok, q⟩
    | cont =>
      obtain ⟨σ', H', J', q⟩ := hsp
      exact ⟨σ', H', J'.ofTry ok, q⟩
    | ret u =>
      obtain ⟨v, σ', H', J', r, q⟩ := hsp
      exact ⟨v, σ', H', J'.ofTry ok, r, q⟩
end
/-! ### the layer's rule -/
abbrev Hdl := Str × Option Nat × HS
def noX : SOut → SOut
  | .exc _ _ => .fail
  | o => o
noncomputable def hdlM : List Hdl → Xc → Env → SOut
  | [], x, ρ => .exc x ρ
  | (cn, some i, hs) :: r, x, ρ => if subX x.cls cn then (match ρ[i]? with
      | some .non => uni (fun a d => offS i (hs a d x.cls (ρ.set i (.xcp a d x.fs))))
      | _ => .fail) else hdlM r x ρ
  | (cn, none, hs) :: r, x, ρ => if subX x.cls cn then uni (fun a d => noX (hs a d x.cls ρ)) else hdlM r x ρ
noncomputable def sTryM (raised : List Str) (body : SS) (hl : List Hdl) : SS := fun ρ => match body ρ with
  | .exc x ρ1 => if raised.contains x.cls then hdlM hl x ρ1 else .fail
  | .nx ρ1 => .nx ρ1
  | .rt v ρ1 => .rt v ρ1
  | .bk ρ1 => .bk ρ1
  | .ct ρ1 => .ct ρ1
  | .fail => .fail
section
variable {X : Cx} {W : WX} {K : PySem.W.Frag} {mg : Str → Option Value}
theorem no_post {P : Nat → Option V} {D : Ends} {F : Nat → FS} {H : Hp} {o : SOut} (h : PostS K mg P W D F H (noX o)) : PostS K mg P WN D F H o := by
  cases o with
  | exc x ρ => exact h.elim
  | nx ρ => exact h
  | bk ρ => exact h
  | ct ρ => exact h
  | rt v ρ => exact h
  | fail => exact h
inductive HdsD (X : Cx) (raised : List Str) : List ExceptHandler → List Hdl → Prop
  | nil : HdsD X raised [] []
  | cons {x cn : Str} {c : Value} {hs : HS} {b₀ : Stmt} {suite : List Stmt} {np pos' : Pos} {hds : List ExceptHandler} {l : List Hdl} (hx : ∀ r ∈ raised, ∀ cls, X.mg r = some cls → PySem.W.exmOne X.K cls c = some (subX r cn)) (hc : Names X x c)
      (hh : ∀ (a : Addr) (oe : Obj) (cls : Value) (d : Option Addr) (pn : List (Addr × Obj)) (xn : Str), Zc cls d oe → (∃ vs, oe.data = .fields vs) → xn ∈ raised → X.mg xn = some cls → PBd (X.suite a ((a, oe) :: pn)) WN (b₀ :: suite) (hs a d xn)) (r : HdsD X raised hds l) :
      HdsD X raised (.ExceptHandler (some (.Name x np)) none (b₀ :: suite) pos' :: hds) ((cn, none, hs) :: l)
  | as_ {x n cn : Str} {i : Nat} {c : Value} {hs : HS} {b₀ : Stmt} {suite : List Stmt} {np pos' : Pos} {hds : List ExceptHandler} {l : List Hdl} (hx : ∀ r ∈ raised, ∀ cls, X.mg r = some cls → PySem.W.exmOne X.K cls c = some (subX r cn)) (hc : Names X x c)
      (hi : X.N[i]? = some n) (hln : X.env.kindOf n = some .local)
      (hh : ∀ (a : Addr) (oe : Obj) (cls : Value) (d : Option Addr) (pn : List (Addr × Obj)) (xn : Str), Zc cls d oe → (∃ vs, oe.data = .fields vs) → xn ∈ raised → X.mg xn = some cls → PBd (X.suite a ((a, oe) :: pn)) WN (b₀ :: suite) (hs a d xn)) (r : HdsD X raised hds l) :
      HdsD X raised (.ExceptHandler (some (.Name x np)) (some n) (b₀ :: suite) pos' :: hds) ((cn, some i, hs) :: l)
theorem HdsD.low {raised : List Str} {W : WX} : ∀ {hds : List ExceptHandler} {l : List Hdl}, HdsD X raised hds l → ∃ L, HdsA X hds L ∧
    ∀ (P : Nat → Option V) (D : Ends) (F : Nat → FS) (H : Hp) (ρ : Env) (xc : Xc), xc.cls ∈ raised → PostS X.K X.mg P W D F H (hdlM l xc ρ) →
      ∀ (cls : Value) (d : Option Addr) (σ' : L2.St) (H' : Hp) (F' : Nat → FS), EnvR X.K P H' F' ρ σ' → XcR X.K X.mg H' xc cls d → Frm (PF.Un F) (PF.Un F') H H' → wManyA X.K W D L cls d σ' H' := by
  intro hds l h
  induction h with
  | nil => exact ⟨[], .nil, fun P D F H ρ xc hm h cls d σ' H' F' E r f => h cls d σ' H' F' E r f⟩
  | @cons x cn c hs b₀ suite np pos' hds l hx hc hh r ih =>
    obtain ⟨L, hL, q⟩ := ih
    refine ⟨(c, none, tHd X.K X.mg raised hs) :: L, .cons hc (fun a oe cls d pn hz hf => ⟨fun pins s σ H D I h => ?_⟩) hL, fun P D F H ρ xc hm h cls d σ' H' F' E r f => ?_⟩
    · obtain ⟨xn, hm, hg, q⟩ := h
      exact (hh a oe cls d pn xn hz.zc hf hm hg).canon.run pins s σ H D I q
    · obtain ⟨Cc, hC, rfl, hf⟩ := id r
      unfold hdlM at h
      refine ⟨subX xc.cls cn, hx _ hm _ hC, fun hsub a na => ?_, fun hsub => ?_⟩
      · rw [if_pos hsub] at h
        have hu : uni (fun a d => noX (hs a d xc.cls ρ)) ≠ .fail := fun z => by rw [z] at h; exact h
        have e := uni_ok hu a d
        refine ⟨xc.cls, hm, hC, P, F', _, E, ?_⟩
        rw [← e] at h
        exact no_post (h.from (S1 := fun _ => False) (f.less fun b z => z.elim id False.elim))
      · rw [if_neg (by rw [hsub]; exact Bool.false_ne_true)] at h
        exact q P D F H ρ xc hm h _ d σ' H' F' E r f
  | @as_ x n cn i c hs b₀ suite np pos' hds l hx hc hi hln hh r ih =>
    obtain ⟨L, hL, q⟩ := ih
    refine ⟨(c, some i, tHd X.K X.mg raised hs) :: L, .as_ hc hi hln (fun a oe cls d pn hz hf => ⟨fun pins s σ H D I h => ?_⟩) hL, fun P D F H ρ xc hm h cls d σ' H' F' E r f => ?_⟩
    · obtain ⟨xn, hm, hg, q⟩ := h
      exact (hh a oe cls d pn xn hz.zc hf hm hg).canon.run pins s σ H D I q
    · obtain ⟨Cc, hC, rfl, hf⟩ := id r
      unfold hdlM at h
      refine ⟨subX xc.cls cn, hx _ hm _ hC, fun hsub a na => ?_, fun hsub => ?_⟩
      · rw [if_pos hsub] at h
        split at h
        · next hn =>
          have hu : uni (fun a d => offS i (hs a d xc.cls (ρ.set i (.xcp a d xc.fs)))) ≠ .fail := fun z => by rw [z] at h; exact h
          have e := uni_ok hu a d
          obtain ⟨F2, E2, s2⟩ := E.off (s := .xcp a d xc.fs) (o := some (.ref a)) (lt_of_get hn) ⟨rfl, hf⟩
          refine ⟨xc.cls, hm, hC, P, F2, _, E2, ?_⟩
          rw [← e] at h
          exact off_post (f.less s2) h
        · exact h.elim
      · rw [if_neg (by rw [hsub]; exact Bool.false_ne_true)] at h
        exact q P D F H ρ xc hm h _ d σ' H' F' E r f
theorem psd_try_many {k : Nat} {raised : List Str} {body : List Stmt} {sb : SS} {h₀ : ExceptHandler} {hds : List ExceptHandler} {l : List Hdl} {pos : Pos} (C : Ctx X W k)
    (hb : ∀ (W' : WX) (pn : List (Addr × Obj)) (xe : Value → Shared → Prop), Ctx (X.tr pn xe) W' k → PBd (X.tr pn xe) W' body sb) (hh : HdsD X raised (h₀ :: hds) l)
    (hst : X.stack = X.env :: X.outer := by rfl) (hfr : X.env.frame = some X.env.locals := by rfl) :
    PSd X W (.Try body (h₀ :: hds) [] [] pos) (sTryM raised sb l) := by
  obtain ⟨L, hL, q⟩ := hh.low (W := W)
  refine ⟨_, ps_try_manyA hst hfr C.nd C.tk (tb := fun W' => TSof X.K X.mg W' sb) (fun W' pn xe tk po => (hb W' pn xe ⟨tk, po, C.calm, C.nd, C.room⟩).canon) hL, fun P σ H F ρ D E h => ?_⟩
  refine ⟨P, F, ρ, E, ?_⟩
  unfold sTryM at h
  cases eb : sb ρ with
  | nx ρ1 => rw [eb] at h; exact h
  | bk ρ1 => rw [eb] at h; exact h
  | ct ρ1 => rw [eb] at h; exact h
  | rt v ρ1 => rw [eb] at h; exact h
  | fail => rw [eb] at h; exact h
  | exc xc ρ1 =>
    rw [eb] at h
    dsimp only at h
    split at h
    · next hm =>
      have hm' : xc.cls ∈ raised := by simpa using hm
      intro cls d σ' H' F' E' r f'
      exact q P D F H ρ1 xc hm' h cls d σ' H' F' E' r f'
    · exact h.elim
end
end PF

/-! an own exception made and kept, its names read; two names at once that get new things -/
namespace PF
open PySem PySem.Spec PyProof.Rows
open L2
section
variable {X : Cx} {W : WX} {K : PySem.W.Frag} {mg : Str → Option Value}
/-- where the raised classes stand -/
def RkC (K : PySem.W.Frag) (mg : Str → Option Value) (raised : List Str) : Prop := ∀ r ∈ raised, ∀ C, mg r = some (.ref C) → ClsAt K r C
/-! ### made -/
def tMkV (C : Addr) (sp : Sp) (dvs : List V) (ta : TA) : TE := fun σ H Q => ta σ H fun vs H1 => vs.length ≤ 1000 ∧ ∀ a, H1 a = none → sp (.ref a :: (vs ++ dvs)) (upd H1 a (exo a C none)) (fun v H2 => v = .non ∧ Q (.ref a) H2) (fun _ _ _ => False)
theorem pe_oexv {CX : CXT} {x : Str} {C fI : Addr} {k : Nat} {fd : FuncData} {ps : List Str} {sp : Sp} {ds : List Value} {dvs : List V} {e : Expr} {es : List Expr} {ta : TA} {p pos : Pos} (T : OexC X.K C) (iC : PySem.W.findIn X.K (.ref C) "__init__" = some (some (.ref fI))) (tI : PySem.W.typeIn X.K (.ref fI) = some (.type "function"))
    (F1 : FnOk X.prog X.w X.K X.mg X.base CX k fI fd ps sp) (hr : Room (k + 1) X.A) (hb : Binds X.K fd ps ds) (hd : Vals dvs ds) (hx : Passes CX X (fun _ _ _ => False)) (hg : Gl X x) (hm : X.mg x = some (.ref C)) (ha : PA X (e :: es) ta)
    (hdb : (x == ("__debug__" : Str)) = false := by decide) (he : starEach (e :: es) X.env = (false, eval e X.env) :: starEach es X.env := by rfl) (hpl : (backTo pos (starEach es X.env)).any (·.1) = false := by rfl) :
    PE X (.Call (.Name x p) (e :: es) [] pos) (tMkV C sp dvs ta) := by
  refine ⟨fun pins s σ H Q I h => ?_⟩
  obtain ⟨nm, q, N, bs, bm, sn, sub, ab, col, dd, _, _, _, _, _, hC, hbm⟩ := T.cls
  refine wpAny_Call_Name_kw (ld_glob I hg hm ?_ hdb)
  refine PySem.W.callWith_K (h₀ := X.base) I.ok.mod.kin T.kC (thn (ha.run pos pins s σ H _ I h) fun us s1 ⟨vs, H1, I1, r1, hz, q1⟩ => ⟨I1.kIn, ?_⟩) he hpl
  show wpAny _ _ (call (.ref C) us) _ _ _
  obtain ⟨hp, g, dr, tk, os⟩ := s1
  have hsz : hp.objs.size ≤ hp.objs.size + 1 := Nat.le_succ _
  have hq := q1 _ (I1.hok.fresh hsz)
  have kk : ∀ b o, hp.get? b = some o → ((hp.push (PySem.W.kdv_tup us)).push (PySem.HandSPX.excO C hp.objs.size)).get? b = some o := fun b o z => Heap.get?_push_of_some _ (Heap.get?_push_of_some _ z)
  have I2 : Inv X pins σ (upd H1 (hp.objs.size + 1) (exo (hp.objs.size + 1) C none)) ⟨(hp.push (PySem.W.kdv_tup us)).push (PySem.HandSPX.excO C hp.objs.size), g, dr, tk, os⟩ :=
    I1.laid (t' := tk) (a := hp.objs.size + 1) (o := exo (hp.objs.size + 1) C none) (h' := (hp.push (PySem.W.kdv_tup us)).push (PySem.HandSPX.excO C hp.objs.size)) kk hsz (exo_ok (by heap_get))
  have r2 : Vals (V.ref (hp.objs.size + 1) :: (vs ++ dvs)) (Value.ref (hp.objs.size + 1) :: (us ++ ds)) := .cons rfl (r1.append hd)
  have hl : (Value.ref (hp.objs.size + 1) :: us ++ ds).length = ps.length := by
    have z := r2.length
    rw [F1.len _ _ _ _ hq] at z
    exact z.symm
  have hus : us.length ≤ sizeLine := by
    rw [← Paired.length r1, sizeLine_eq]
    omega
  refine wpAny_call (PySem.HandSPX.call_own PySem.F.excBase_ValueError (fun Y => PySem.HandSPX.refsVE_contains Y bm hbm) (I1.kIn _ _ hC) (PySem.W.looks_findIn I1.kIn iC) (fun self => PySem.W.bind_fn I1.kIn self tI) hus
    (codeAny_mono (F1.run _ X.stack _ _ ⟨Value.ref (hp.objs.size + 1) :: us, []⟩ (Value.ref (hp.objs.size + 1) :: (us ++ ds)) _ _ (fun _ _ _ => False) (hr.make C us []) (I2.env0.make C us []) (hb _ (Value.ref (hp.objs.size + 1) :: us) I2.kIn hl) r2 hq) fun r s' hq' => ?_))
  match r, hq' with
  | .error er, hq' => exact hx pins σ _ _ er s' I2 hq'
  | .ok .next, hq' => exact False.elim hq'
  | .ok .brk, hq' => exact False.elim hq'
  | .ok .cont, hq' => exact False.elim hq'
  | .ok (.ret u), hq' =>
    obtain ⟨v, H2, os2, bare2, un2, hok2, rv, ev, q2⟩ := hq'
    subst ev
    obtain ⟨h2, g2, d2, t2, os'⟩ := s'
    exact ⟨rv, ⟨.ref (hp.objs.size + 1), H2, I2.call' (ch := []) os2 un2 hok2 bare2 (fun b z => absurd z (by simp)), rfl, q2⟩⟩
def eMkX1 (x f : Str) (sa : SA) : SE := fun ρ => match sa ρ with
  | .ok vs ρ1 => match imms vs with
    | some [d] => .ok (.own (.obj x [(f, d)])) ρ1
    | _ => .fail
  | .exc y ρ1 => .exc y ρ1
  | .fail => .fail
def eMkX2 (x f g : Str) (sa : SA) : SE := fun ρ => match sa ρ with
  | .ok vs ρ1 => match imms vs with
    | some [d, e] => .ok (.own (.obj x [(g, e), (f, d)])) ρ1
    | _ => .fail
  | .exc y ρ1 => .exc y ρ1
  | .fail => .fail
theorem pd_mkx1 {k : Nat} {x f : Str} {e : Expr} {sa : SA} {p pos : Pos} (C : Ctx X W k) (N : XcI1 X.K X.mg x f) (hat : ClsAt X.K x N.C) (ha : PAd X W [e] sa) (hk : 2 ≤ k := by decide) (hg : Gl X x := by rfl) (hdb : (x == ("__debug__" : Str)) = false := by decide)
    (he : starEach (e :: []) X.env = (false, eval e X.env) :: starEach [] X.env := by rfl) (hpl : (backTo pos (starEach [] X.env)).any (·.1) = false := by rfl) : PEd X W (.Call (.Name x p) [e] [] pos) (eMkX1 x f sa) := by
  obtain ⟨ta, a1, a2⟩ := ha
  refine ⟨_, pe_oexv N.T N.i N.t (N.ok (P := X.prog) (w := X.w) (base := X.base)) (C.room.mono hk) N.b .nil pass0 hg N.m a1 hdb he hpl, fun P σ H F ρ Q E h => ?_⟩
  refine a2 P σ H F ρ _ E ?_
  unfold eMkX1 at h
  cases ea : sa ρ with
  | fail => rw [ea] at h; exact h
  | exc y ρ1 => rw [ea] at h; exact h
  | ok vs ρ1 =>
    rw [ea] at h
    dsimp only at h
    intro us H1 F1 S E1 R1 dj f1
    cases ei : imms vs with
    | none => rw [ei] at h; exact h.elim
    | some ds =>
      rw [ei] at h
      have rs := imms_ok ei R1
      match ds, rs, h with
      | [], _, h => exact h.elim
      | _ :: _ :: _, _, h => exact h.elim
      | [d], rs, h =>
        obtain ⟨v, r, rfl, rv, rr⟩ := rs
        cases rr
        refine ⟨by simp, fun a ha' => ⟨a, N.C, v, rfl, N.T, N.n, upd_same, fun dx h1 h2 => ⟨rfl, ?_⟩⟩⟩
        have h1' : H1 dx = none := by rw [upd_ne h2] at h1; exact h1
        have g : Grow (fun b => b = a ∨ b = dx) H1 (upd (upd (upd H1 a (exo a N.C none)) dx (exd dx [(f, v)])) a (exo a N.C (some dx))) := ⟨fun b o' q => by rw [upd_ne (ne_of_none q ha'), upd_ne (ne_of_none q h1'), upd_ne (ne_of_none q ha')]; exact q, fun b z => z.elim (fun e => e ▸ ha') (fun e => e ▸ h1')⟩
        refine PostO.new E1 (h.from f1) _ _ _ ⟨⟨a, dx, N.C, [(f, v)], rfl, .inl rfl, .inr rfl, hat, upd_same, by rw [upd_ne h2, upd_same], v, [], rfl, rv.mono g.ext, rfl⟩, fun b z => ?_⟩ g
        rcases z with rfl | rfl
        · rw [upd_same]; exact fun z => nomatch z
        · rw [upd_ne h2, upd_same]; exact fun z => nomatch z
theorem pd_mkx2 {k : Nat} {x f g : Str} {e e2 : Expr} {sa : SA} {p pos : Pos} (C : Ctx X W k) (N : XcI2 X.K X.mg x f g) (hat : ClsAt X.K x N.C) (ha : PAd X W [e, e2] sa) (hk : 2 ≤ k := by decide) (hg : Gl X x := by rfl) (hdb : (x == ("__debug__" : Str)) = false := by decide)
    (he : starEach (e :: [e2]) X.env = (false, eval e X.env) :: starEach [e2] X.env := by rfl) (hpl : (backTo pos (starEach [e2] X.env)).any (·.1) = false := by rfl) : PEd X W (.Call (.Name x p) [e, e2] [] pos) (eMkX2 x f g sa) := by
  obtain ⟨ta, a1, a2⟩ := ha
  refine ⟨_, pe_oexv N.T N.i N.t (N.ok (P := X.prog) (w := X.w) (base := X.base)) (C.room.mono hk) N.b .nil pass0 hg N.m a1 hdb he hpl, fun P σ H F ρ Q E h => ?_⟩
  refine a2 P σ H F ρ _ E ?_
  unfold eMkX2 at h
  cases ea : sa ρ with
  | fail => rw [ea] at h; exact h
  | exc y ρ1 => rw [ea] at h; exact h
  | ok vs ρ1 =>
    rw [ea] at h
    dsimp only at h
    intro us H1 F1 S E1 R1 dj f1
    cases ei : imms vs with
    | none => rw [ei] at h; exact h.elim
    | some ds =>
      rw [ei] at h
      have rs := imms_ok ei R1
      match ds, rs, h with
      | [], _, h => exact h.elim
      | [_], _, h => exact h.elim
      | _ :: _ :: _ :: _, _, h => exact h.elim
      | [d1, d2], rs, h =>
        obtain ⟨v, r, rfl, rv, u, r', rfl, ru, rr⟩ := rs
        cases rr
        refine ⟨by simp, fun a ha' => ⟨a, N.C, v, u, rfl, N.T, N.n, N.n2, upd_same, fun dx h1 h2 => ⟨rfl, ?_⟩⟩⟩
        have h1' : H1 dx = none := by rw [upd_ne h2] at h1; exact h1
        have hn : a ≠ dx := Ne.symm h2
        have gr : Grow (fun b => b = a ∨ b = dx) H1 (upd (upd (upd (upd H1 a (exo a N.C none)) dx (exd dx [(f, v)])) a (exo a N.C (some dx))) dx (exd dx [(g, u), (f, v)])) := ⟨fun b o' q => by rw [upd_ne (ne_of_none q h1'), upd_ne (ne_of_none q ha'), upd_ne (ne_of_none q h1'), upd_ne (ne_of_none q ha')]; exact q, fun b z => z.elim (fun e => e ▸ ha') (fun e => e ▸ h1')⟩
        refine PostO.new E1 (h.from f1) _ _ _ ⟨⟨a, dx, N.C, [(g, u), (f, v)], rfl, .inl rfl, .inr rfl, hat, by rw [upd_ne hn, upd_same], upd_same, u, _, rfl, ru.mono gr.ext, v, [], rfl, rv.mono gr.ext, rfl⟩, fun b z => ?_⟩ gr
        rcases z with rfl | rfl
        · rw [upd_ne hn, upd_same]; exact fun z => nomatch z
        · rw [upd_same]; exact fun z => nomatch z
/-! ### x.f -/
def tXg (C : Addr) (f : Str) (te : TE) : TE := fun σ H Q => te σ H fun x H1 => ∃ (a dx : Addr) (fs : List (Str × V)) (v : V), x = .ref a ∧ H1 a = some (exo a C (some dx)) ∧ H1 dx = some (exd dx fs) ∧ fs.lookup f = some v ∧ Q v H1
theorem pe_xg {C : Addr} {e : Expr} {te : TE} {pos : Pos} {f : Str} (T : XfC X.K C) (hno : PySem.W.findIn X.K (.ref C) f = some none) (he : PE X e te) (hb : attributeBase e f X.env (eval e X.env) = eval e X.env := by rfl) :
    PE X (.Attribute e f pos) (tXg C f te) := by
  refine ⟨fun pins s σ H Q I h => ?_⟩
  refine attr_of hb (thn (he.run pins s σ H _ I h) fun u s1 hh => ?_)
  obtain ⟨x, H1, I1, rx, a, dx, fs, v, ex, ea, ed, l, q⟩ := hh
  subst ex
  obtain rfl : u = Value.ref a := rx
  obtain ⟨t1, ho⟩ := exo_at I1.hok ea
  obtain ⟨mA, hns, hr⟩ := exd_at I1.hok ed
  obtain ⟨od, hod, hl⟩ := lookIn_ns hns
  obtain ⟨u, hu, ru⟩ := RelO.some_of (v := v) (o := mA f) (by rw [← l]; exact hr f)
  have J : PySem.W.InstAt s1.heap a _ C (some od) := ⟨ho, rfl, rfl, hod⟩
  exact HandSPX.exc_get I1.kIn J T.ga T.gg T.exC (PySem.W.findObj_own T.hdC hno rfl (by rw [hl, hu])) (handed_of ru) ⟨v, H1, I1.tok _, ru, q⟩
theorem RIf.lk {H : Hp} {f : Str} {d : D} : ∀ {fs : List (Str × D)} {fv : List (Str × V)}, RIf K H fs fv → fs.lookup f = some d → ∃ v, fv.lookup f = some v ∧ RI K H d v
  | [], _, _, h => nomatch h
  | (g, x) :: fs, _, ⟨u, fv, e, h1, h2⟩, h => by
    subst e
    rw [List.lookup_cons] at h ⊢
    cases q : f == g with
    | true => rw [q] at h; cases h; exact ⟨u, rfl, h1⟩
    | false => rw [q] at h; exact RIf.lk h2 h
theorem ClsAt.uniq {c : Str} {C C' : Addr} (h : ClsAt K c C) (h' : ClsAt K c C') : C = C' := by
  unfold ClsAt at h h'
  rw [h] at h'
  cases h'; rfl
def eXg (c f : Str) (i : Nat) : SE := fun ρ => match owS i ρ with
  | some (.obj c' fs) => if c' = c then match fs.lookup f with
      | some d => .ok (.imm d) ρ
      | none => .fail
    else .fail
  | _ => .fail
theorem pd_xg (i : Nat) {x c f : Str} {C : Addr} {p pos : Pos} (T : XfC X.K C) (hat : ClsAt X.K c C) (hno : PySem.W.findIn X.K (.ref C) f = some none) (hN : X.N[i]? = some x := by rfl) (hv : Vis X.env.scope x := by first | exact Or.inl rfl | exact Or.inr (Or.inl rfl) | exact Or.inr (Or.inr rfl))
    (hd : (x == ("__debug__" : Str)) = false := by decide) (hcd : (x == ("__classdict__" : Str)) = false := by decide)
    (hb : attributeBase (.Name x p) f X.env (eval (.Name x p) X.env) = eval (.Name x p) X.env := by rfl) : PEd X W (.Attribute (.Name x p) f pos) (eXg c f i) := by
  refine ⟨_, pe_xg T hno (pe_var hN hv hd hcd) hb, fun P σ H F ρ Q E h => ?_⟩
  unfold eXg at h
  split at h
  · next c' fs q =>
    split at h
    · next ec =>
      subst ec
      obtain ⟨hi, v, hv, a, dx, C', fv, ev, _, _, hC, hH, hD, hr⟩ := owS_ok E q
      cases ClsAt.uniq hC hat
      split at h
      · next d hd =>
        obtain ⟨u, hu, ru⟩ := hr.lk hd
        refine ⟨v, hv, a, dx, fv, u, ev, hH, hD, hu, ?_⟩
        exact h u H F (fun _ => False) E ru (fun _ _ _ z => z) (Frm.refl _ _ |>.less fun b z => z.elim id False.elim)
      · exact h.elim
    · exact h.elim
  · exact h.elim
/-- of a thing just made -/
def eXgT (c f : Str) (e : SE) : SE := fun ρ => match e ρ with
  | .ok (.own (.obj c' fs)) ρ1 => if c' = c then match fs.lookup f with
      | some d => .ok (.imm d) ρ1
      | none => .fail
    else .fail
  | .exc y ρ1 => .exc y ρ1
  | _ => .fail
theorem pd_xgT {c f : Str} {C : Addr} {e : Expr} {a : SE} {pos : Pos} (T : XfC X.K C) (hat : ClsAt X.K c C) (hno : PySem.W.findIn X.K (.ref C) f = some none) (ha : PEd X W e a)
    (hb : attributeBase e f X.env (eval e X.env) = eval e X.env := by rfl) : PEd X W (.Attribute e f pos) (eXgT c f a) := by
  obtain ⟨ta, a1, a2⟩ := ha
  refine ⟨_, pe_xg T hno a1 hb, fun P σ H F ρ Q E h => ?_⟩
  refine a2 P σ H F ρ _ E ?_
  unfold eXgT at h
  cases ea : a ρ with
  | fail => rw [ea] at h; exact h.elim
  | exc y ρ1 => rw [ea] at h; exact h
  | ok v ρ1 =>
    rw [ea] at h
    cases v with
    | imm d => exact h.elim
    | ref j => exact h.elim
    | own d =>
      cases d with
      | obj c' fs =>
        dsimp only at h
        split at h
        · next ec =>
          subst ec
          cases hl : fs.lookup f with
          | none => rw [hl] at h; exact h.elim
          | some d =>
            rw [hl] at h
            intro u H1 F1 S1 E1 R1 dj1 f1
            obtain ⟨⟨a', dx, C', fv, ev, _, _, hC, hH, hD, hr⟩, _⟩ := R1
            cases ClsAt.uniq hC hat
            obtain ⟨w, hw, rw'⟩ := hr.lk hl
            exact ⟨a', dx, fv, w, ev, hH, hD, hw, h w H1 F1 (fun _ => False) E1 rw' (fun _ _ _ z => z) (f1.less fun b z => z.elim .inl False.elim)⟩
        · exact h.elim
      | _ => exact h.elim
/-! ### a, b = new, new -/
def sPar2 (i j : Nat) (a b : SE) : SS := fun ρ => match a ρ with
  | .ok (.own d) ρ1 => match b ρ1 with
    | .ok (.own e) ρ2 => match putS i (.own d) ρ2 with
      | some ρ3 => match putS j (.own e) ρ3 with
        | some ρ4 => .nx ρ4
        | none => .fail
      | none => .fail
    | _ => .fail
  | _ => .fail
theorem psd_par2 {i j : Nat} {x y : Str} {a b : Expr} {sa sb : SE} {px py pt pos : Pos} {kt k2 pt2} {k : Nat} (C : Ctx X W k) (ha : PEd X W a sa) (hb : PEd X W b sb) (hi : X.N[i]? = some x := by rfl) (hj : X.N[j]? = some y := by rfl) (hij : i ≠ j := by decide)
    (hx : X.env.scope.names.lookup x = some .local := by rfl) (hy : X.env.scope.names.lookup y = some .local := by rfl)
    (hw : swappedStores [.Tuple [.Name x px, .Name y py] kt pt] (.Tuple [a, b] k2 pt2) X.env = pure (some [x, y]) := by rfl)
    (hs : swapsWithSole [.Tuple [.Name x px, .Name y py] kt pt] (.Tuple [a, b] k2 pt2) pos.line X.env = pure false := by rfl)
    (he : starEach (a :: [b]) X.env = (false, eval a X.env) :: starEach [b] X.env := by rfl) (he2 : starEach (b :: []) X.env = (false, eval b X.env) :: starEach [] X.env := by rfl) :
    PSd X W (.Assign [.Tuple [.Name x px, .Name y py] kt pt] (.Tuple [a, b] k2 pt2) pos) (sPar2 i j sa sb) := by
  obtain ⟨ta, a1, a2⟩ := ha
  obtain ⟨tb, b1, b2⟩ := hb
  refine ⟨_, ps_par C.calm C.nd hi hj hij hx hy (pa_cons a1 (pa_cons b1 pa_nil he2) he) hw hs, fun P σ H F ρ D E h => ?_⟩
  refine a2 P σ H F ρ _ E ?_
  unfold sPar2 at h
  cases ea : sa ρ with
  | fail => rw [ea] at h; exact h.elim
  | exc x ρ1 => rw [ea] at h; exact h.elim
  | ok v1 ρ1 =>
    rw [ea] at h
    cases v1 with
    | imm d => exact h.elim
    | ref j => exact h.elim
    | own d =>
      dsimp only at h
      intro u1 H1 F1 S1 E1 R1 dj1 f1
      refine b2 P σ H1 F1 ρ1 _ E1 ?_
      cases eb : sb ρ1 with
      | fail => rw [eb] at h; exact h.elim
      | exc x ρ2 => rw [eb] at h; exact h.elim
      | ok v2 ρ2 =>
        rw [eb] at h
        cases v2 with
        | imm d => exact h.elim
        | ref j => exact h.elim
        | own e =>
          dsimp only at h
          intro u2 H2 F2 S2 E2 R2 dj2 f2
          refine ⟨u1, u2, rfl, ?_⟩
          cases q1 : putS i (.own d) ρ2 with
          | none => rw [q1] at h; exact h.elim
          | some ρ3 =>
            rw [q1] at h
            dsimp only at h
            obtain ⟨hi1, rfl⟩ := putS_ok q1
            cases q2 : putS j (.own e) (ρ2.set i (.own d)) with
            | none => rw [q2] at h; exact h.elim
            | some ρ4 =>
              rw [q2] at h
              dsimp only at h
              obtain ⟨hj1, rfl⟩ := putS_ok q2
              have o1 : OwnR X.K H2 S1 d u1 := R1.1.keep (fun b o s q => f2.keep b o (fun z => by obtain ⟨k, z⟩ := z; exact dj1 k b z s) q) f2.ext
              have out : ∀ b, S1 b → ¬ (PF.Un F2 b ∨ S2 b) := fun b s z => by
                rcases f2.sub b z with ⟨k, z⟩ | z
                · exact dj1 k b z s
                · exact R1.2 b s z
              have E3 := E2.put (S := S1) (s := .own d) (o := some u1) hi1 (show SlR X.K H2 S1 _ (.own d) (some u1) from ⟨u1, rfl, o1⟩) (fun k b z s => out b s (.inl ⟨k, z⟩)) (fun b s => f2.dom b (R1.2 b s))
              have E4 := E3.put (S := S2) (s := .own e) (o := some u2) hj1 (show SlR X.K H2 S2 _ (.own e) (some u2) from ⟨u2, rfl, R2.1⟩) (fun k b z s => by
                rcases z with ⟨_, z⟩ | ⟨_, z⟩
                · exact out b z (.inr s)
                · exact dj2 k b z s) R2.2
              have f3 : Frm (fun b => PF.Un F1 b ∨ S1 b) (fun b => (PF.Un F2 b ∨ S1 b) ∨ S2 b) H1 H2 := ⟨fun b o n q => f2.keep b o (fun z => n (.inl z)) q, f2.ext, f2.dom, fun b z => by
                rcases z with (z | z) | z
                · exact (f2.sub b (.inl z)).imp .inl id
                · exact .inl (.inr z)
                · exact (f2.sub b (.inr z)).imp .inl id⟩
              exact h _ H2 _ E4 ((f1.trans f3).less fun b z => (PF.Un.put z).imp (fun z => PF.Un.put z) id)
end
end PF

/-! {1: x, ..}, e.get(k, x) -/
namespace PF
open PySem PySem.Spec PyProof.Rows
open L2
section
variable {X : Cx} {W : WX} {K : PySem.W.Frag} {mg : Str → Option Value}
def dspTI (ts : List (Int × TE)) : List (TE × TE) := ts.map fun t => (tC (.int t.1), t.2)
def dspSI : List (Int × SE) → Env → Out (List (DK × D))
  | [], ρ => .ok [] ρ
  | (k, e) :: es, ρ => (e ρ).bind fun v ρ1 => match v with
    | .imm d => (dspSI es ρ1).bind fun l ρ2 => .ok ((.inl k, d) :: l) ρ2
    | _ => .fail
theorem sd_dspsI : ∀ (ts : List (Int × TE)) (es : List (Int × SE)), Paired (fun t s => t.1 = s.1 ∧ SdE K mg W t.2 s.2) ts es → ∀ P σ H F ρ (Q : List (V × V) → Hp → Prop), EnvR K P H F ρ σ →
    PostO K mg P W σ (fun H _ (l : List (DK × D)) (us : List (V × V)) => ∃ vs : List (Key × V), us = vs.map (fun kv => (kV kv.1, kv.2)) ∧ RIk K H l vs) Q F H (dspSI es ρ) → tPairs (dspTI ts) σ H Q
  | _, _, .nil, P, σ, H, F, ρ, Q, E, h => h [] H F (fun _ => False) E ⟨[], rfl, rfl⟩ (fun _ _ _ z => z) (Frm.refl _ _ |>.less fun b z => z.elim id False.elim)
  | _, _, .cons (a := t) (b := s) (l₁ := ts) (l₂ := es) ⟨h1, h2⟩ hr, P, σ, H, F, ρ, Q, E, h => by
    show t.2 σ H fun y H2 => tPairs (dspTI ts) σ H2 fun ps H3 => Q ((.int t.1, y) :: ps) H3
    obtain ⟨k, e⟩ := s
    have h2' : SdE K mg W t.2 e := h2
    refine h2' P σ H F ρ _ E ?_
    unfold dspSI at h
    cases ea : e ρ with
    | fail => rw [ea] at h; exact h
    | exc x ρ1 => rw [ea] at h; exact h
    | ok v ρ1 =>
      rw [ea, Out.bind_ok] at h
      intro u1 H1 F1 S1 E1 R1 dj1 f1
      cases v with
      | own d => exact h.elim
      | ref i => exact h.elim
      | imm d =>
        dsimp only at h
        refine sd_dspsI ts es hr P σ H1 F1 ρ1 _ E1 ?_
        cases eb : dspSI es ρ1 with
        | fail => rw [eb] at h; exact h
        | exc x ρ2 => rw [eb] at h; exact h.from f1
        | ok l ρ2 =>
          rw [eb, Out.bind_ok] at h
          intro us H2 F2 S2 E2 ⟨vs, e1, e2⟩ dj2 f2
          refine h ((.int t.1, u1) :: us) H2 F2 (fun _ => False) E2 ⟨(.inl k, u1) :: vs, ?_, u1, vs, rfl, RI.mono f2.ext R1, e2⟩ (fun _ _ _ z => z) ((f1.step f2).less fun b z => z.elim .inl False.elim)
          rw [e1, h1]
          rfl
def eDspI (es : List (Int × SE)) : SE := fun ρ => (dspSI es ρ).bind fun l ρ1 => if l.length ≤ 15 then .ok (.own (.dct (dctL l))) ρ1 else .fail
theorem sd_dspI {ts : List (Int × TE)} {es : List (Int × SE)} (hp : Paired (fun t s => t.1 = s.1 ∧ SdE K mg W t.2 s.2) ts es) : SdE K mg W (tDisp (dspTI ts)) (eDspI es) := by
  intro P σ H F ρ Q E h p hp0
  have g0 : Grow (fun a => a = p) H (upd H p (.dK [])) := ⟨fun b o e => by rw [upd_ne (ne_of_none e hp0)]; exact e, fun a z => z ▸ hp0⟩
  have E0 := E.grow g0
  have f0 : Frm (PF.Un F) (fun a => PF.Un F a ∨ a = p) H (upd H p (.dK [])) := Frm.of_grow g0
  have np0 : ¬ PF.Un F p := fun ⟨i, z⟩ => E.dom i p z hp0
  have hpp : (upd H p (.dK [])) p = some (.dK []) := upd_same
  refine sd_dspsI ts es hp P σ _ F ρ _ E0 ?_
  unfold eDspI at h
  cases ea : dspSI es ρ with
  | fail => rw [ea] at h; exact h
  | exc x ρ1 => rw [ea] at h; exact h.from f0
  | ok l ρ1 =>
    rw [ea, Out.bind_ok] at h
    intro us H3 F3 S3 E3 ⟨vs, e1, e2⟩ dj3 f3
    split at h
    · rename_i hl
      have np3 : ¬ PF.Un F3 p := fun z => (f3.sub p (.inl z)).elim np0 (fun z => by rw [hpp] at z; cases z)
      have hp3 : H3 p = some (.dK []) := f3.keep p _ np0 hpp
      refine ⟨hp3, vs, e1, by rw [RIk.length e2]; exact hl, ?_⟩
      obtain ⟨n1, n2⟩ := ne_mut hp3 trivial
      have ex := ext_upd (o' := .dK (mergeK [] vs)) hp3 trivial
      have dm : ∀ b, H3 b ≠ none → (upd H3 p (.dK (mergeK [] vs))) b ≠ none := fun b z => by
        by_cases e : b = p
        · rw [e, upd_same]; exact fun z => nomatch z
        · rw [upd_ne e]; exact z
      have fA : Frm (PF.Un F) (fun a => PF.Un F3 a ∨ a = p) H H3 := by
        refine f0.trans ?_
        have fB : Frm (PF.Un F) (PF.Un F3) (upd H p (.dK [])) H3 := f3.less fun _ z => .inl z
        exact fB.add
      have fC : Frm (fun a => PF.Un F3 a ∨ a = p) (fun a => PF.Un F3 a ∨ a = p) H3 (upd H3 p (.dK (mergeK [] vs))) := Frm.upd1 (.inr rfl) (by rw [hp3]; exact fun z => nomatch z) n1 n2
      refine h (.ref p) _ F3 (fun a => a = p) ?_ ⟨⟨p, _, rfl, rfl, upd_same, RIk.merge (RIk.mono ex e2) rfl⟩, fun a z => ?_⟩ (fun i a z1 z2 => np3 ⟨i, z2 ▸ z1⟩) (fA.trans fC)
      · refine E3.keep (fun b o u e => ?_) ex dm
        have : b ≠ p := fun z => np3 (z ▸ u)
        rw [upd_ne this]; exact e
      · rw [z, upd_same]; exact fun z => nomatch z
    · exact h.elim
inductive DPi (X : Cx) (W : WX) : List (Option Expr) → List Expr → List (Int × SE) → Prop where
  | nil : DPi X W [] [] []
  | cons {k : Int} {j : Nat} {p : Pos} {v : Expr} {e : SE} {ks : List (Option Expr)} {vs : List Expr} {es : List (Int × SE)} : PEd X W v e → DPi X W ks vs es → DPi X W (some (.Constant (.int k) j p) :: ks) (v :: vs) ((k, e) :: es)
theorem DPi.pps {ks : List (Option Expr)} {vs : List Expr} {es : List (Int × SE)} {pos : Pos} (h : DPi X W ks vs es) : ks.length = es.length ∧ vs.length = es.length ∧ ks.all (·.isSome) = true ∧ ∃ ts, PPs X pos ks vs (dspTI ts) ∧ Paired (fun t s => t.1 = s.1 ∧ SdE X.K X.mg W t.2 s.2) ts es := by
  induction h with
  | nil => exact ⟨rfl, rfl, rfl, [], pps_nil, .nil⟩
  | @cons k j p v e ks vs es hv hr ih =>
    obtain ⟨l1, l2, h3, ts, h4, h5⟩ := ih
    obtain ⟨tv, v1, v2⟩ := hv
    exact ⟨by simp [l1], by simp [l2], by simp [h3], (k, tv) :: ts, pps_cons pe_int v1 h4, .cons ⟨rfl, v2⟩ h5⟩
theorem pd_dspI {ks : List (Option Expr)} {vs : List Expr} {es : List (Int × SE)} {pos : Pos} (h : DPi X W ks vs es) (h0 : ks ≠ [] := by exact fun z => nomatch z) (h15 : es.length ≤ 15 := by decide) : PEd X W (.Dict ks vs pos) (eDspI es) := by
  obtain ⟨l1, l2, h3, ts, h4, h5⟩ := h.pps (pos := pos)
  exact ⟨_, pe_disp h4 h3 (l1.trans l2.symm) h0 (by rw [l1]; exact h15), sd_dspI h5⟩
/-! ### e.get(k, x), e a new dict -/
def eGet2 (a b c : SE) : SE := fun ρ => match a ρ with
  | .ok (.own (.dct l)) ρ1 => match b ρ1 with
    | .ok (.imm y) ρ2 => match c ρ2 with
      | .ok (.imm z) ρ3 => match keyD y with
        | some k => .ok (.imm ((assocD k l).getD z)) ρ3
        | none => .fail
      | _ => .fail
    | _ => .fail
  | _ => .fail
theorem pd_get2 {k : Nat} {o e f : Expr} {a b c : SE} {apos cpos : Pos} (C : Ctx X W k) (ha : PEd X W o a) (hb : PEd X W e b) (hc : PEd X W f c) (m : M2 X o "get" apos e f cpos := by exact ⟨rfl, rfl, rfl, rfl⟩) :
    PEd X W (.Call (.Attribute o "get" apos) [e, f] [] cpos) (eGet2 a b c) := by
  obtain ⟨ta, a1, a2⟩ := ha
  obtain ⟨tb, b1, b2⟩ := hb
  obtain ⟨tc, c1, c2⟩ := hc
  refine ⟨_, pe_dget2 (by have := C.u64; omega) a1 b1 c1 m, fun P σ H F ρ Q E h => ?_⟩
  refine a2 P σ H F ρ _ E ?_
  unfold eGet2 at h
  cases ea : a ρ with
  | fail => rw [ea] at h; exact h.elim
  | exc x ρ1 => rw [ea] at h; exact h.elim
  | ok v1 ρ1 =>
    rw [ea] at h
    cases v1 with
    | imm d => exact h.elim
    | ref j => exact h.elim
    | own d =>
      cases d with
      | dct l =>
        dsimp only at h
        intro u1 H1 F1 S1 E1 R1 dj1 f1
        obtain ⟨⟨p, vs, e1, s1, h1, r1⟩, dm1⟩ := R1
        subst e1
        refine ⟨p, rfl, .inl ⟨_, .inl h1⟩, ?_⟩
        refine b2 P σ H1 F1 ρ1 _ E1 ?_
        cases eb : b ρ1 with
        | fail => rw [eb] at h; exact h.elim
        | exc x ρ2 => rw [eb] at h; exact h.elim
        | ok v2 ρ2 =>
          rw [eb] at h
          cases v2 with
          | own _ => exact h.elim
          | ref _ => exact h.elim
          | imm y =>
            dsimp only at h
            intro u2 H2 F2 S2 E2 R2 dj2 f2
            refine c2 P σ H2 F2 ρ2 _ E2 ?_
            cases ec : c ρ2 with
            | fail => rw [ec] at h; exact h.elim
            | exc x ρ3 => rw [ec] at h; exact h.elim
            | ok v3 ρ3 =>
              rw [ec] at h
              cases v3 with
              | own _ => exact h.elim
              | ref _ => exact h.elim
              | imm z =>
                dsimp only at h
                intro u3 H3 F3 S3 E3 R3 dj3 f3
                have n1 : ¬ PF.Un F1 p := fun ⟨i, q⟩ => dj1 i p q s1
                have h2 : H2 p = some (.dK vs) := f2.keep p _ n1 h1
                have n2 : ¬ PF.Un F2 p := fun q => (f2.sub p (.inl q)).elim n1 (fun q => by rw [h1] at q; cases q)
                have h3 : H3 p = some (.dK vs) := f3.keep p _ n2 h2
                have r3 : RIk X.K H3 l vs := RIk.mono f3.ext (RIk.mono f2.ext r1)
                have ry : RdR X.K H3 y u2 := RI.rd (RI.mono f3.ext R2)
                cases hk : keyD y with
                | none => rw [hk] at h; exact h.elim
                | some k' =>
                  rw [hk] at h
                  dsimp only at h
                  have fr : Frm (PF.Un F) (fun a => PF.Un F3 a ∨ False) H H3 := ((f1.step f2).step f3).less fun b q => q.elim .inl False.elim
                  refine ⟨valV vs (toK k'), .inl ⟨vs, toK k', .inl h3, keyD_ok hk ry, rfl⟩, ?_⟩
                  cases ek : assocD k' l with
                  | some d =>
                    obtain ⟨w, hw, rw'⟩ := (r3.val k').1 d ek
                    rw [hw]
                    rw [ek] at h
                    exact h w H3 F3 (fun _ => False) E3 rw' (fun _ _ _ q => q) fr
                  | none =>
                    rw [(r3.val k').2 ek]
                    rw [ek] at h
                    exact h u3 H3 F3 (fun _ => False) E3 R3 (fun _ _ _ q => q) fr
      | _ => exact h.elim
end
end PF

/-! a, b = new, new where the names are cells: by way of the tuple -/
namespace PF
open PySem PySem.Spec PyProof.Rows
open L2
section
variable {X : Cx} {W : WX} {K : PySem.W.Frag} {mg : Str → Option Value}
theorem psd_par2c {i j : Nat} {x y : Str} {a b : Expr} {sa sb : SE} {px py pt pos : Pos} {kt k2 pt2} {k : Nat} (C : Ctx X W k) (ha : PEd X W a sa) (hb : PEd X W b sb) (hi : X.N[i]? = some x := by rfl) (hj : X.N[j]? = some y := by rfl) (hij : i ≠ j := by decide)
    (hx : Loc X.env.scope x := by first | exact Or.inl rfl | exact Or.inr rfl) (hy : Loc X.env.scope y := by first | exact Or.inl rfl | exact Or.inr rfl)
    (hfx : X.fn x = true ∨ X.env.scope.names.lookup x = some .local := by first | exact .inl rfl | exact .inr rfl) (hfy : X.fn y = true ∨ X.env.scope.names.lookup y = some .local := by first | exact .inl rfl | exact .inr rfl)
    (hw : swappedStores [.Tuple [.Name x px, .Name y py] kt pt] (.Tuple [a, b] k2 pt2) X.env = pure none := by rfl)
    (hs : swapsWithSole [.Tuple [.Name x px, .Name y py] kt pt] (.Tuple [a, b] k2 pt2) pos.line X.env = pure false := by rfl)
    (h1 : (assignEach [.Tuple [.Name x px, .Name y py] kt pt] X.env).map (·.2) = [assign (.Tuple [.Name x px, .Name y py] kt pt) X.env] := by rfl)
    (hs1 : (assignEach [.Name x px, .Name y py] X.env).map (·.2) = assign (.Name x px) X.env :: (assignEach [.Name y py] X.env).map (·.2) := by rfl)
    (hs2 : (assignEach [.Name y py] X.env).map (·.2) = assign (.Name y py) X.env :: (assignEach [] X.env).map (·.2) := by rfl)
    (hn : (assignEach [.Name x px, .Name y py] X.env).length = 2 := by rfl) (hst : (assignEach [.Name x px, .Name y py] X.env).findIdx? (·.1) = none := by rfl)
    (he : starEach (a :: [b]) X.env = (false, eval a X.env) :: starEach [b] X.env := by rfl) (he2 : starEach (b :: []) X.env = (false, eval b X.env) :: starEach [] X.env := by rfl) :
    PSd X W (.Assign [.Tuple [.Name x px, .Name y py] kt pt] (.Tuple [a, b] k2 pt2) pos) (sPar2 i j sa sb) := by
  obtain ⟨ta, a1, a2⟩ := ha
  obtain ⟨tb, b1, b2⟩ := hb
  refine ⟨_, ps_asg (pe_tup (pa_cons a1 (pa_cons b1 pa_nil he2) he)) (pg_tup C.calm (pgs_cons (pg_name C.nd hi hx hfx) (pgs_cons (pg_name C.nd hj hy hfy) pgs_nil hs2) hs1) hn hst) hs hw h1, fun P σ H F ρ D E h => ?_⟩
  refine a2 P σ H F ρ _ E ?_
  unfold sPar2 at h
  cases ea : sa ρ with
  | fail => rw [ea] at h; exact h.elim
  | exc x ρ1 => rw [ea] at h; exact h.elim
  | ok v1 ρ1 =>
    rw [ea] at h
    cases v1 with
    | imm d => exact h.elim
    | ref j => exact h.elim
    | own d =>
      dsimp only at h
      intro u1 H1 F1 S1 E1 R1 dj1 f1
      refine b2 P σ H1 F1 ρ1 _ E1 ?_
      cases eb : sb ρ1 with
      | fail => rw [eb] at h; exact h.elim
      | exc x ρ2 => rw [eb] at h; exact h.elim
      | ok v2 ρ2 =>
        rw [eb] at h
        cases v2 with
        | imm d => exact h.elim
        | ref j => exact h.elim
        | own e =>
          dsimp only at h
          intro u2 H2 F2 S2 E2 R2 dj2 f2
          refine ⟨show 2 ≤ sizeLine by rw [sizeLine_eq]; omega, fun p hp => ⟨p, _, rfl, .inl (.inl upd_same), rfl, u1, _, rfl, u2, _, rfl, rfl, ?_⟩⟩
          cases q1 : putS i (.own d) ρ2 with
          | none => rw [q1] at h; exact h.elim
          | some ρ3 =>
            rw [q1] at h
            dsimp only at h
            obtain ⟨hi1, rfl⟩ := putS_ok q1
            cases q2 : putS j (.own e) (ρ2.set i (.own d)) with
            | none => rw [q2] at h; exact h.elim
            | some ρ4 =>
              rw [q2] at h
              dsimp only at h
              obtain ⟨hj1, rfl⟩ := putS_ok q2
              have g : Grow (fun b => b = p) H2 (upd H2 p (.tup [u1, u2])) := ⟨fun b o' q => by rw [upd_ne (ne_of_none q hp)]; exact q, fun b z => z ▸ hp⟩
              have o1 : OwnR X.K H2 S1 d u1 := R1.1.keep (fun b o s q => f2.keep b o (fun z => by obtain ⟨k, z⟩ := z; exact dj1 k b z s) q) f2.ext
              have out : ∀ b, S1 b → ¬ (PF.Un F2 b ∨ S2 b) := fun b s z => by
                rcases f2.sub b z with ⟨k, z⟩ | z
                · exact dj1 k b z s
                · exact R1.2 b s z
              have E2' := E2.grow g
              have o1' : OwnR X.K _ S1 d u1 := o1.keep (fun b o _ q => g.keep b o q) g.ext
              have o2' : OwnR X.K _ S2 e u2 := R2.1.keep (fun b o _ q => g.keep b o q) g.ext
              have E3 := E2'.put (S := S1) (s := .own d) (o := some u1) hi1 (show SlR X.K _ S1 _ (.own d) (some u1) from ⟨u1, rfl, o1'⟩) (fun k b z s => out b s (.inl ⟨k, z⟩)) (fun b s => g.dom b (f2.dom b (R1.2 b s)))
              have E4 := E3.put (S := S2) (s := .own e) (o := some u2) hj1 (show SlR X.K _ S2 _ (.own e) (some u2) from ⟨u2, rfl, o2'⟩) (fun k b z s => by
                rcases z with ⟨_, z⟩ | ⟨_, z⟩
                · exact out b z (.inr s)
                · exact dj2 k b z s) (fun b s => g.dom b (R2.2 b s))
              have f3 : Frm (fun b => PF.Un F1 b ∨ S1 b) (fun b => (PF.Un F2 b ∨ S1 b) ∨ S2 b) H1 (upd H2 p (.tup [u1, u2])) := ⟨fun b o n q => g.keep b o (f2.keep b o (fun z => n (.inl z)) q), f2.ext.trans g.ext, fun b z => g.dom b (f2.dom b z), fun b z => by
                rcases z with (z | z) | z
                · exact (f2.sub b (.inl z)).imp .inl id
                · exact .inl (.inr z)
                · exact (f2.sub b (.inr z)).imp .inl id⟩
              exact h _ _ _ E4 ((f1.trans f3).less fun b z => (PF.Un.put z).imp (fun z => PF.Un.put z) id)
end
end PF

local macro_rules
  | `(tactic| simp! only [$ts,*] $[$l:location]?) => `(tactic| simp (decide := true) -implicitDefEqProofs only [PF.x_var, PF.x_vi, PF.x_vo, PF.x_vp, PF.x_c, PF.x_rdi, PF.x_rdo, PF.x_rdr, PF.x_rki, PF.x_rko, PF.x_rkp, PF.x_opt, PF.x_bin, PF.x_bin1, PF.x_bin2, PF.x_bin3, PF.x_un, PF.x_un1, PF.x_un2, PF.x_frz, PF.x_fzi, PF.x_fzo, PF.x_fzr, PF.x_fki, PF.x_fko, PF.x_fzl, PF.x_fzd, PF.x_fzt, PF.x_args, PF.x_args1, PF.x_args2, PF.x_im0, PF.x_im1, PF.x_nil, PF.x_cons, PF.x_cons1, PF.x_cons2, PF.x_cons3, PF.x_call, PF.x_call1, PF.x_call2, PF.x_call3, PF.x_call4, PF.x_ta0, PF.x_ta1, PF.x_ta2, PF.x_tk1, PF.x_tk2, PF.x_tk3, PF.x_rf0, PF.x_rf1, PF.x_rf2, PF.x_nd0, PF.x_nd1, PF.x_nd2, PF.x_wb0, PF.x_wb1, PF.x_po0, PF.x_po1, PF.x_po2, PF.x_w0, PF.x_w1, PF.x_w2, PF.x_w3, PF.x_wk1, PF.x_wk2, PF.x_tV, PF.x_tV1, PF.x_tr, PF.x_tr1, PF.x_tr2, PF.x_tr3, PF.x_not, PF.x_not1, PF.x_and, PF.x_and1, PF.x_and2, PF.x_or, PF.x_or1, PF.x_or2, PF.x_andV, PF.x_andV1, PF.x_andV2, PF.x_orV, PF.x_orV1, PF.x_orV2, PF.x_notV, PF.x_notV1, PF.x_if, PF.x_if1, PF.x_if2, PF.x_pno, PF.x_pat, PF.x_pat1, PF.x_slc, PF.x_slc1, PF.x_slc2, PF.x_slc3, PF.x_m1, PF.x_m11, PF.x_m12, PF.x_isS, PF.x_iof, PF.x_iof1, PF.x_iof2, PF.x_itl, PF.x_itt, PF.x_its, PF.x_rng, PF.x_rng1, PF.x_rng2, PF.x_lc, PF.x_lc1, PF.x_lc2, PF.x_tg1, PF.x_wi0, PF.x_wi1, PF.x_re0, PF.x_re1, PF.x_gk, PF.x_ia0, PF.x_ia1, PF.x_ii1, PF.x_ii2, PF.x_seq, PF.x_seq1, PF.x_seq2, PF.x_seq3, PF.x_seq4, PF.x_seq5, PF.x_pass, PF.x_brk, PF.x_cont, PF.x_retN, PF.x_nxK, PF.x_put, PF.x_pk1, PF.x_pk2, PF.x_pk3, PF.x_set, PF.x_set1, PF.x_set2, PF.x_set3, PF.x_asg, PF.x_asg1, PF.x_setN, PF.x_setTp, PF.x_sts0, PF.x_sts1, PF.x_sts2, PF.x_ifS, PF.x_ifS1, PF.x_ifS2, PF.x_ret, PF.x_ret1, PF.x_ret2, PF.x_exp, PF.x_exp1, PF.x_exp2, PF.x_ow, PF.x_ow1, PF.x_ow2, PF.x_rs, PF.x_rs1, PF.x_rs2, PF.x_app, PF.x_app1, PF.x_app2, PF.x_app3, PF.x_sput, PF.x_sput1, PF.x_sput2, PF.x_sput3, PF.x_sput4, PF.x_sput5, PF.x_for, PF.x_for1, PF.x_run, PF.x_fin1, PF.x_fin2, PF.x_fin3, PF.x_fin4, PF.x_fin5, PF.x_rvi, PF.x_rvo, PF.x_rvr, PF.x_rk1, PF.x_rk2, PF.x_ba0, PF.x_ba1, PF.x_ba2, PF.x_se, PF.x_si, PF.x_sm, PF.x_tupD, PF.x_lstD, PF.x_plusS, PF.x_plusL, PF.x_lenS, PF.x_lenL, PF.x_lenT, PF.x_sub, PF.x_lt, PF.x_gt, PF.x_le, PF.x_ge, PF.x_neg, PF.x_revs, PF.x_neB, PF.x_eqB, PF.x_tB, PF.x_pkn, PF.x_iin, PF.x_slcS, PF.x_slcL, PF.x_slcT, PF.x_memT, PF.x_memL, PF.x_yes, PF.x_tms, PF.x_mod, PF.x_fdiv, PF.x_sm62, PF.x_big, PF.x_bigL, PF.x_par, PF.x_par1, PF.x_par2, PF.x_enm, PF.x_enm1, PF.x_enm2, PF.x_newT, PF.x_dsp, PF.x_dsp1, PF.x_dspN, PF.x_dspC, PF.x_dspA, PF.x_dspB, PF.x_zip, PF.x_zip1, PF.x_zip2, PF.x_tg2, PF.x_tg3, PF.x_tg4, PF.x_newK, PF.x_isB, PF.x_pkR, PF.x_pkR1, PF.x_pkR2, PF.x_pkR3, PF.x_pkR4, PF.x_cpk, PF.x_cpk0, PF.x_cpk1, PF.x_ins, PF.x_ins0, PF.x_ins1, PF.x_ins2, PF.Out.bind_ok, PF.Out.bind_exc, PF.Out.bind_fail, List.getElem?_cons_zero, List.getElem?_cons_succ, List.set_cons_zero, List.set_cons_succ, PF.plusI, PF.eqI, Option.map_some, Option.map_none, List.length_cons, List.length_nil, Nat.zero_add, Nat.add_zero, List.map_cons, List.map_nil, reduceIte, if_true, if_false, Nat.reduceAdd, Nat.reduceSub, Nat.reduceLeDiff, List.replicate_succ, List.replicate_zero, List.cons_append, List.nil_append, Bool.false_eq_true, Bool.not_true, Bool.not_false, List.getElem?_nil, Bool.and_true, Bool.true_and, bne_iff_ne, ne_eq, Nat.succ_ne_zero, not_false_eq_true, not_true_eq_false, reduceCtorEq, Nat.add_one_sub_one, eq_self, Int.reduceLT, Int.reduceLE, Int.reduceNeg, Int.reduceAdd, Int.reduceSub, Int.reduceMul, Int.reduceEq, Int.reduceBEq, Int.reduceBNe, Int.reduceMod, Int.reduceDiv, Nat.reduceEqDiff, Int.reduceToNat, decide_true, decide_false, true_and, and_true, and_self, Bool.and_self, $ts,*] $[$l]?)
  | `(tactic| simp! [$ts,*] $[$l:location]?) => `(tactic| simp -implicitDefEqProofs only [$ts,*, PF.x_var, PF.x_vi, PF.x_vo, PF.x_vp, PF.x_c, PF.x_rdi, PF.x_rdo, PF.x_rdr, PF.x_rki, PF.x_rko, PF.x_rkp, PF.x_opt, PF.x_bin, PF.x_bin1, PF.x_bin2, PF.x_bin3, PF.x_un, PF.x_un1, PF.x_un2, PF.x_frz, PF.x_fzi, PF.x_fzo, PF.x_fzr, PF.x_fki, PF.x_fko, PF.x_fzl, PF.x_fzd, PF.x_fzt, PF.x_args, PF.x_args1, PF.x_args2, PF.x_im0, PF.x_im1, PF.x_nil, PF.x_cons, PF.x_cons1, PF.x_cons2, PF.x_cons3, PF.x_call, PF.x_call1, PF.x_call2, PF.x_call3, PF.x_call4, PF.x_ta0, PF.x_ta1, PF.x_ta2, PF.x_tk1, PF.x_tk2, PF.x_tk3, PF.x_rf0, PF.x_rf1, PF.x_rf2, PF.x_nd0, PF.x_nd1, PF.x_nd2, PF.x_wb0, PF.x_wb1, PF.x_po0, PF.x_po1, PF.x_po2, PF.x_w0, PF.x_w1, PF.x_w2, PF.x_w3, PF.x_wk1, PF.x_wk2, PF.x_tV, PF.x_tV1, PF.x_tr, PF.x_tr1, PF.x_tr2, PF.x_tr3, PF.x_not, PF.x_not1, PF.x_and, PF.x_and1, PF.x_and2, PF.x_or, PF.x_or1, PF.x_or2, PF.x_andV, PF.x_andV1, PF.x_andV2, PF.x_orV, PF.x_orV1, PF.x_orV2, PF.x_notV, PF.x_notV1, PF.x_if, PF.x_if1, PF.x_if2, PF.x_pno, PF.x_pat, PF.x_pat1, PF.x_slc, PF.x_slc1, PF.x_slc2, PF.x_slc3, PF.x_m1, PF.x_m11, PF.x_m12, PF.x_isS, PF.x_iof, PF.x_iof1, PF.x_iof2, PF.x_itl, PF.x_itt, PF.x_its, PF.x_rng, PF.x_rng1, PF.x_rng2, PF.x_lc, PF.x_lc1, PF.x_lc2, PF.x_tg1, PF.x_wi0, PF.x_wi1, PF.x_re0, PF.x_re1, PF.x_gk, PF.x_ia0, PF.x_ia1, PF.x_ii1, PF.x_ii2, PF.x_seq, PF.x_seq1, PF.x_seq2, PF.x_seq3, PF.x_seq4, PF.x_seq5, PF.x_pass, PF.x_brk, PF.x_cont, PF.x_retN, PF.x_nxK, PF.x_put, PF.x_pk1, PF.x_pk2, PF.x_pk3, PF.x_set, PF.x_set1, PF.x_set2, PF.x_set3, PF.x_asg, PF.x_asg1, PF.x_setN, PF.x_setTp, PF.x_sts0, PF.x_sts1, PF.x_sts2, PF.x_ifS, PF.x_ifS1, PF.x_ifS2, PF.x_ret, PF.x_ret1, PF.x_ret2, PF.x_exp, PF.x_exp1, PF.x_exp2, PF.x_ow, PF.x_ow1, PF.x_ow2, PF.x_rs, PF.x_rs1, PF.x_rs2, PF.x_app, PF.x_app1, PF.x_app2, PF.x_app3, PF.x_sput, PF.x_sput1, PF.x_sput2, PF.x_sput3, PF.x_sput4, PF.x_sput5, PF.x_for, PF.x_for1, PF.x_run, PF.x_fin1, PF.x_fin2, PF.x_fin3, PF.x_fin4, PF.x_fin5, PF.x_rvi, PF.x_rvo, PF.x_rvr, PF.x_rk1, PF.x_rk2, PF.x_ba0, PF.x_ba1, PF.x_ba2, PF.x_se, PF.x_si, PF.x_sm, PF.x_tupD, PF.x_lstD, PF.x_plusS, PF.x_plusL, PF.x_lenS, PF.x_lenL, PF.x_lenT, PF.x_sub, PF.x_lt, PF.x_gt, PF.x_le, PF.x_ge, PF.x_neg, PF.x_revs, PF.x_neB, PF.x_eqB, PF.x_tB, PF.x_pkn, PF.x_iin, PF.x_slcS, PF.x_slcL, PF.x_slcT, PF.x_memT, PF.x_memL, PF.x_yes, PF.x_tms, PF.x_mod, PF.x_fdiv, PF.x_sm62, PF.x_big, PF.x_bigL, PF.x_par, PF.x_par1, PF.x_par2, PF.x_enm, PF.x_enm1, PF.x_enm2, PF.x_newT, PF.x_dsp, PF.x_dsp1, PF.x_dspN, PF.x_dspC, PF.x_dspA, PF.x_dspB, PF.x_zip, PF.x_zip1, PF.x_zip2, PF.x_tg2, PF.x_tg3, PF.x_tg4, PF.x_newK, PF.x_isB, PF.x_pkR, PF.x_pkR1, PF.x_pkR2, PF.x_pkR3, PF.x_pkR4, PF.x_cpk, PF.x_cpk0, PF.x_cpk1, PF.x_ins, PF.x_ins0, PF.x_ins1, PF.x_ins2, PF.Out.bind_ok, PF.Out.bind_exc, PF.Out.bind_fail, List.getElem?_cons_zero, List.getElem?_cons_succ, List.set_cons_zero, List.set_cons_succ, PF.plusI, PF.eqI, Option.map_some, Option.map_none, List.length_cons, List.length_nil, Nat.zero_add, Nat.add_zero, List.map_cons, List.map_nil, reduceIte, if_true, if_false, Nat.reduceAdd, Nat.reduceSub, Nat.reduceLeDiff, List.replicate_succ, List.replicate_zero, List.cons_append, List.nil_append, Bool.false_eq_true, Bool.not_true, Bool.not_false, List.getElem?_nil, Bool.and_true, Bool.true_and, bne_iff_ne, ne_eq, Nat.succ_ne_zero, not_false_eq_true, not_true_eq_false, reduceCtorEq, Nat.add_one_sub_one, eq_self, Int.reduceLT, Int.reduceLE, Int.reduceNeg, Int.reduceAdd, Int.reduceSub, Int.reduceMul, Int.reduceEq, Int.reduceBEq, Int.reduceBNe, Int.reduceMod, Int.reduceDiv, Nat.reduceEqDiff, Int.reduceToNat, decide_true, decide_false, true_and, and_true, and_self, Bool.and_self] $[$l]?)
  | `(tactic| dsimp! only [$ts,*] $[$l:location]?) => `(tactic| simp (decide := true) -implicitDefEqProofs only [PF.x_var, PF.x_vi, PF.x_vo, PF.x_vp, PF.x_c, PF.x_rdi, PF.x_rdo, PF.x_rdr, PF.x_rki, PF.x_rko, PF.x_rkp, PF.x_opt, PF.x_bin, PF.x_bin1, PF.x_bin2, PF.x_bin3, PF.x_un, PF.x_un1, PF.x_un2, PF.x_frz, PF.x_fzi, PF.x_fzo, PF.x_fzr, PF.x_fki, PF.x_fko, PF.x_fzl, PF.x_fzd, PF.x_fzt, PF.x_args, PF.x_args1, PF.x_args2, PF.x_im0, PF.x_im1, PF.x_nil, PF.x_cons, PF.x_cons1, PF.x_cons2, PF.x_cons3, PF.x_call, PF.x_call1, PF.x_call2, PF.x_call3, PF.x_call4, PF.x_ta0, PF.x_ta1, PF.x_ta2, PF.x_tk1, PF.x_tk2, PF.x_tk3, PF.x_rf0, PF.x_rf1, PF.x_rf2, PF.x_nd0, PF.x_nd1, PF.x_nd2, PF.x_wb0, PF.x_wb1, PF.x_po0, PF.x_po1, PF.x_po2, PF.x_w0, PF.x_w1, PF.x_w2, PF.x_w3, PF.x_wk1, PF.x_wk2, PF.x_tV, PF.x_tV1, PF.x_tr, PF.x_tr1, PF.x_tr2, PF.x_tr3, PF.x_not, PF.x_not1, PF.x_and, PF.x_and1, PF.x_and2, PF.x_or, PF.x_or1, PF.x_or2, PF.x_andV, PF.x_andV1, PF.x_andV2, PF.x_orV, PF.x_orV1, PF.x_orV2, PF.x_notV, PF.x_notV1, PF.x_if, PF.x_if1, PF.x_if2, PF.x_pno, PF.x_pat, PF.x_pat1, PF.x_slc, PF.x_slc1, PF.x_slc2, PF.x_slc3, PF.x_m1, PF.x_m11, PF.x_m12, PF.x_isS, PF.x_iof, PF.x_iof1, PF.x_iof2, PF.x_itl, PF.x_itt, PF.x_its, PF.x_rng, PF.x_rng1, PF.x_rng2, PF.x_lc, PF.x_lc1, PF.x_lc2, PF.x_tg1, PF.x_wi0, PF.x_wi1, PF.x_re0, PF.x_re1, PF.x_gk, PF.x_ia0, PF.x_ia1, PF.x_ii1, PF.x_ii2, PF.x_seq, PF.x_seq1, PF.x_seq2, PF.x_seq3, PF.x_seq4, PF.x_seq5, PF.x_pass, PF.x_brk, PF.x_cont, PF.x_retN, PF.x_nxK, PF.x_put, PF.x_pk1, PF.x_pk2, PF.x_pk3, PF.x_set, PF.x_set1, PF.x_set2, PF.x_set3, PF.x_asg, PF.x_asg1, PF.x_setN, PF.x_setTp, PF.x_sts0, PF.x_sts1, PF.x_sts2, PF.x_ifS, PF.x_ifS1, PF.x_ifS2, PF.x_ret, PF.x_ret1, PF.x_ret2, PF.x_exp, PF.x_exp1, PF.x_exp2, PF.x_ow, PF.x_ow1, PF.x_ow2, PF.x_rs, PF.x_rs1, PF.x_rs2, PF.x_app, PF.x_app1, PF.x_app2, PF.x_app3, PF.x_sput, PF.x_sput1, PF.x_sput2, PF.x_sput3, PF.x_sput4, PF.x_sput5, PF.x_for, PF.x_for1, PF.x_run, PF.x_fin1, PF.x_fin2, PF.x_fin3, PF.x_fin4, PF.x_fin5, PF.x_rvi, PF.x_rvo, PF.x_rvr, PF.x_rk1, PF.x_rk2, PF.x_ba0, PF.x_ba1, PF.x_ba2, PF.x_se, PF.x_si, PF.x_sm, PF.x_tupD, PF.x_lstD, PF.x_plusS, PF.x_plusL, PF.x_lenS, PF.x_lenL, PF.x_lenT, PF.x_sub, PF.x_lt, PF.x_gt, PF.x_le, PF.x_ge, PF.x_neg, PF.x_revs, PF.x_neB, PF.x_eqB, PF.x_tB, PF.x_pkn, PF.x_iin, PF.x_slcS, PF.x_slcL, PF.x_slcT, PF.x_yes, PF.x_tms, PF.x_mod, PF.x_fdiv, PF.x_sm62, PF.x_big, PF.x_bigL, PF.x_par, PF.x_par1, PF.x_par2, PF.x_enm, PF.x_enm1, PF.x_enm2, PF.x_newT, PF.x_dsp, PF.x_dsp1, PF.x_dspN, PF.x_dspC, PF.x_dspA, PF.x_dspB, PF.x_zip, PF.x_zip1, PF.x_zip2, PF.x_tg2, PF.x_tg3, PF.x_tg4, PF.x_newK, PF.x_isB, PF.x_pkR, PF.x_pkR1, PF.x_pkR2, PF.x_pkR3, PF.x_pkR4, PF.x_cpk, PF.x_cpk0, PF.x_cpk1, PF.x_ins, PF.x_ins0, PF.x_ins1, PF.x_ins2, PF.Out.bind_ok, PF.Out.bind_exc, PF.Out.bind_fail, List.getElem?_cons_zero, List.getElem?_cons_succ, List.set_cons_zero, List.set_cons_succ, PF.plusI, PF.eqI, Option.map_some, Option.map_none, List.length_cons, List.length_nil, Nat.zero_add, Nat.add_zero, List.map_cons, List.map_nil, reduceIte, if_true, if_false, Nat.reduceAdd, Nat.reduceSub, Nat.reduceLeDiff, List.replicate_succ, List.replicate_zero, Bool.false_eq_true, Bool.not_true, Bool.not_false, List.getElem?_nil, Bool.and_true, Bool.true_and, bne_iff_ne, ne_eq, Nat.succ_ne_zero, not_false_eq_true, not_true_eq_false, reduceCtorEq, Nat.add_one_sub_one, eq_self, Int.reduceLT, Int.reduceLE, Int.reduceNeg, Int.reduceAdd, Int.reduceSub, Int.reduceMul, Int.reduceEq, Int.reduceBEq, Int.reduceBNe, Int.reduceMod, Int.reduceDiv, Nat.reduceEqDiff, Int.reduceToNat, decide_true, decide_false, true_and, and_true, and_self, Bool.and_self, $ts,*] $[$l]?)

namespace K06
open PySem L2 PF
/-! ### the text by places -/
def top (i : Nat) : Stmt := PySem.Challenge.pw_sideturn_k06_refusals.main.body.getD i (.Pass ⟨0, 0, 0, 0⟩)
abbrev st__law_deal : Stmt := top 11
def N__law_deal : List Str := ["_law_script", "_law_base", "_law_some", "_law_one", "_law_number"]
theorem sc__law_deal : FnScope N__law_deal ["_law_script", "_law_base"] (defScope st__law_deal) := ⟨rfl, rfl, rfl, by decide +kernel, rfl, by decide +kernel, by decide +kernel⟩
abbrev st__law_draw : Stmt := top 12
def N__law_draw : List Str := ["_law_deal_here", "_law_many", "_law_number", "_law_one", "_law_other"]
theorem sc__law_draw : FnScope N__law_draw ["_law_deal_here", "_law_many"] (defScope st__law_draw) := ⟨rfl, rfl, rfl, by decide +kernel, rfl, by decide +kernel, by decide +kernel⟩
abbrev st__law_letters : Stmt := top 13
def N__law_letters : List Str := ["_law_deal_here", "_law_letters_here", "_law_k"]
theorem sc__law_letters : FnScope N__law_letters ["_law_deal_here"] (defScope st__law_letters) := ⟨rfl, rfl, rfl, by decide +kernel, rfl, by decide +kernel, by decide +kernel⟩
abbrev st__law_refuse : Stmt := top 14
def N__law_refuse : List Str := ["_law_k", "_law_row", "_law_word"]
theorem sc__law_refuse : FnScope N__law_refuse ["_law_k", "_law_row", "_law_word"] (defScope st__law_refuse) := ⟨rfl, rfl, rfl, by decide +kernel, rfl, by decide +kernel, by decide +kernel⟩
abbrev st__law_caught : Stmt := top 15
def N__law_caught : List Str := ["_law_k", "_law_row", "_law_word", "_law_found", "e"]
theorem sc__law_caught : FnScope N__law_caught ["_law_k", "_law_row", "_law_word"] (defScope st__law_caught) := ⟨rfl, rfl, rfl, by decide +kernel, rfl, by decide +kernel, by decide +kernel⟩
abbrev st__law_kinds : Stmt := top 16
def N__law_kinds : List Str := ["_law_k", "_law_row", "_law_word", "_law_found", "e"]
theorem sc__law_kinds : FnScope N__law_kinds ["_law_k", "_law_row", "_law_word"] (defScope st__law_kinds) := ⟨rfl, rfl, rfl, by decide +kernel, rfl, by decide +kernel, by decide +kernel⟩
abbrev st__law_right : Stmt := top 17
def N__law_right : List Str := ["_law_k", "_law_row", "_law_word", "_law_fields", "_law_at"]
theorem sc__law_right : FnScope N__law_right ["_law_k", "_law_row", "_law_word"] (defScope st__law_right) := ⟨rfl, rfl, rfl, by decide +kernel, rfl, by decide +kernel, by decide +kernel⟩
abbrev st_law : Stmt := top 18
def N_law : List Str := ["_law_script", "_law_deal_here", "_law_lines", "_law_words", "_law_k", "_law_one", "_law_other", "_law_more", "_law_last"]
theorem sc_law : FnScope N_law ["_law_script"] (defScope st_law) := ⟨rfl, rfl, rfl, by decide +kernel, rfl, by decide +kernel, by decide +kernel⟩
def RS : List Str := ["NoRow", "NoText", "NoProgram", "NoTerm", "NoValue", "NotFlat", "NoKind", "NoEdit"]
abbrev si_NoText : Stmt := initOf (top 2)
theorem sci_NoText : FnScope ["self", "row"] ["self", "row"] (defScope si_NoText) := ⟨rfl, rfl, rfl, by decide +kernel, rfl, by decide +kernel, by decide +kernel⟩
abbrev si_NoProgram : Stmt := initOf (top 3)
theorem sci_NoProgram : FnScope ["self", "word", "row"] ["self", "word", "row"] (defScope si_NoProgram) := ⟨rfl, rfl, rfl, by decide +kernel, rfl, by decide +kernel, by decide +kernel⟩
abbrev si_NotFlat : Stmt := initOf (top 6)
theorem sci_NotFlat : FnScope ["self", "row"] ["self", "row"] (defScope si_NotFlat) := ⟨rfl, rfl, rfl, by decide +kernel, rfl, by decide +kernel, by decide +kernel⟩
/-! ### what the defs compute -/
noncomputable def b__law_deal : SS :=
    (sSeq (sSet 2 (eLc (iOf (eFrz (eSlc (eVar 0) (.at (eVar 1)) (.at (eC (.int 63)))))) (.nm 3) stYes (eBin maxD (eVar 3) (eBin subD (eC (.int 0)) (eVar 3)))))
    (sSeq (sSet 4 (eBin plusD (eC (.int 7919)) (eVar 1)))
    (sSeq (sFor (iOf (eFrz (eVar 2))) (.nm 3) (sSet 4 (eBin modD (eBin plusD (eBin timesD (eVar 4) (eC (.int 48271))) (eBin modD (eVar 3) (eC (.int 2147483629)))) (eC (.int 2147483647)))))
    (sRet (eDeal (eVar 4) (eC (.int 0)) (eUn lrevD (eLc (iOf (eFrz (eVar 2))) (.nm 3) (tV (eBin geD (eVar 3) (eBin powD (eC (.int 10)) (eC (.int 18))))) (eFrz (eVar 3)))))))))
noncomputable def g__law_deal : List Ar → FOut := runG 2 5 b__law_deal
theorem n__law_deal : ∀ as, g__law_deal as ≠ .fail → as.length = 2 := runG_len
noncomputable def b__law_draw : SS :=
    (sSeq (sWhile (stAnd (tV (eBin eqD (eBin idxD (eVar 0) (eC (.str [110, 117, 109, 98, 101, 114]))) (eC (.int 0)))) (tV (eBin gtD (eLenL 0) (eC (.int 0))))) (sPut 0 (eC (.str [110, 117, 109, 98, 101, 114])) (eFrz (ePopL 0))))
    (sSeq (sSet 2 (eBin idxD (eVar 0) (eC (.str [110, 117, 109, 98, 101, 114]))))
    (sSeq (sIf (tV (eBin gtD (eVar 2) (eC (.int 0)))) (sSeq (sPut 0 (eC (.str [110, 117, 109, 98, 101, 114])) (eBin fdivD (eVar 2) (eVar 1)))
    (sRet (eBin modD (eVar 2) (eVar 1)))) sPass)
    (sSeq (sSet 3 (eBin modD (eBin plusD (eBin timesD (eBin idxD (eVar 0) (eC (.str [115, 101, 101, 100]))) (eC (.int 48271))) (eC (.int 7919))) (eC (.int 2147483647))))
    (sSeq (sPut 0 (eC (.str [115, 101, 101, 100])) (eBin modD (eBin plusD (eBin timesD (eVar 3) (eC (.int 40692))) (eC (.int 104729))) (eC (.int 2147483399))))
    (sSeq (sSet 4 (eBin modD (eBin timesD (eBin idxD (eVar 0) (eC (.str [115, 101, 101, 100]))) (eBin idxD (eVar 0) (eC (.str [115, 101, 101, 100])))) (eC (.int 2147483563))))
    (sRet (eBin modD (eBin plusD (eBin timesD (eBin modD (eBin timesD (eVar 3) (eVar 3)) (eC (.int 2147483629))) (eC (.int 2147483563))) (eVar 4)) (eVar 1)))))))))
noncomputable def g__law_draw : List Ar → FOut := runG 2 5 b__law_draw
theorem n__law_draw : ∀ as, g__law_draw as ≠ .fail → as.length = 2 := runG_len
noncomputable def b__law_letters : SS :=
    (sSeq (sSet 1 (eC (.str [97, 98, 99, 100, 101, 102, 103, 104, 105, 106, 107, 108, 109, 110, 111, 112, 113, 114, 115, 116, 117, 118, 119, 120, 121, 122])))
    (sRet (eM1 isStrD joinD (eC (.str [])) (eLc (iRng (aCons (eBin plusD (eC (.int 1)) (eCall g__law_draw (aCons (eVar 0) (aCons (eC (.int 8)) aNil)))) aNil)) (.nm 2) stYes (eBin idxD (eVar 1) (eCall g__law_draw (aCons (eVar 0) (aCons (eC (.int 26)) aNil))))))))
noncomputable def g__law_letters : List Ar → FOut := runG 1 3 b__law_letters
theorem n__law_letters : ∀ as, g__law_letters as ≠ .fail → as.length = 1 := runG_len
noncomputable def b__law_refuse : SS :=
    (sSeq (sIf (tV (eBin eqD (eVar 0) (eC (.int 0)))) (sRaise1 "NoText" "row" (aCons (eFrz (eVar 1)) aNil)) sPass)
    (sSeq (sIf (tV (eBin eqD (eVar 0) (eC (.int 1)))) (sRaise2 "NoProgram" "word" "row" (aCons (eFrz (eVar 2)) (aCons (eFrz (eVar 1)) aNil))) sPass)
    (sSeq (sIf (tV (eBin eqD (eVar 0) (eC (.int 2)))) (sRaise0 "NoTerm") sPass)
    (sSeq (sIf (tV (eBin eqD (eVar 0) (eC (.int 3)))) (sRaise0 "NoValue") sPass)
    (sSeq (sIf (tV (eBin eqD (eVar 0) (eC (.int 4)))) (sRaise1 "NotFlat" "row" (aCons (eFrz (eVar 1)) aNil)) sPass)
    (sSeq (sIf (tV (eBin eqD (eVar 0) (eC (.int 5)))) (sRaise0 "NoKind") sPass)
    (sSeq (sIf (tV (eBin eqD (eVar 0) (eC (.int 6)))) (sRaise0 "NoEdit") sPass)
    (sRaise0 "NoRow"))))))))
noncomputable def g__law_refuse : List Ar → FOut := runG 3 3 b__law_refuse
theorem n__law_refuse : ∀ as, g__law_refuse as ≠ .fail → as.length = 3 := runG_len
noncomputable def b__law_caught : SS :=
    (sSeq (sSet 3 (eC .non))
    (sSeq (sTryM RS (sExpr (eCall g__law_refuse (aCons (eFrz (eVar 0)) (aCons (eFrz (eVar 1)) (aCons (eFrz (eVar 2)) aNil))))) [("NoText", some 4, fun xa xd xn => (sSet 3 (eArgs lstD (aCons (eC (.int 0)) (aCons (eFrz (eXf "NoText" "row" xa xd xn 4)) aNil))))), ("NoProgram", some 4, fun xa xd xn => (sSet 3 (eArgs lstD (aCons (eC (.int 1)) (aCons (eFrz (eXf "NoProgram" "word" xa xd xn 4)) (aCons (eFrz (eXf "NoProgram" "row" xa xd xn 4)) aNil)))))), ("NoTerm", none, fun xa xd xn => (sSet 3 (eArgs lstD (aCons (eC (.int 2)) aNil)))), ("NoValue", none, fun xa xd xn => (sSet 3 (eArgs lstD (aCons (eC (.int 3)) aNil)))), ("NotFlat", some 4, fun xa xd xn => (sSet 3 (eArgs lstD (aCons (eC (.int 4)) (aCons (eFrz (eXf "NotFlat" "row" xa xd xn 4)) aNil))))), ("NoKind", none, fun xa xd xn => (sSet 3 (eArgs lstD (aCons (eC (.int 5)) aNil)))), ("NoEdit", none, fun xa xd xn => (sSet 3 (eArgs lstD (aCons (eC (.int 6)) aNil)))), ("NoRow", none, fun xa xd xn => (sSet 3 (eArgs lstD (aCons (eC (.int 7)) aNil))))])
    (sRet (eVar 3))))
noncomputable def g__law_caught : List Ar → FOut := runG 3 5 b__law_caught
theorem n__law_caught : ∀ as, g__law_caught as ≠ .fail → as.length = 3 := runG_len
noncomputable def b__law_kinds : SS :=
    (sSeq (sSet 3 (eC .non))
    (sSeq (sTry RS "SideError" 4 (sExpr (eCall g__law_refuse (aCons (eFrz (eVar 0)) (aCons (eFrz (eVar 1)) (aCons (eFrz (eVar 2)) aNil))))) (fun xa xd xn => (sSeq (sSet 3 (eArgs lstD (aCons (eIsX ["NoText"] xa xd xn 4) (aCons (eIsX ["NoProgram"] xa xd xn 4) (aCons (eIsX ["NoTerm"] xa xd xn 4) (aCons (eIsX ["NoValue"] xa xd xn 4) aNil))))))
    (sSeq (sSet 3 (eBin plusD (eVar 3) (eArgs lstD (aCons (eIsX ["NotFlat"] xa xd xn 4) (aCons (eIsX ["NoKind"] xa xd xn 4) (aCons (eIsX ["NoEdit"] xa xd xn 4) (aCons (eIsX ["NoRow"] xa xd xn 4) aNil)))))))
    (sSet 3 (eBin plusD (eVar 3) (eArgs lstD (aCons (eIsX ["ValueError"] xa xd xn 4) aNil))))))))
    (sRet (eVar 3))))
noncomputable def g__law_kinds : List Ar → FOut := runG 3 5 b__law_kinds
theorem n__law_kinds : ∀ as, g__law_kinds as ≠ .fail → as.length = 3 := runG_len
noncomputable def b__law_right : SS :=
    (sSeq (sSet 3 (eGet2 (eDspI [(0, (eFrz (eArgs lstD (aCons (eFrz (eVar 1)) aNil)))), (1, (eFrz (eArgs lstD (aCons (eFrz (eVar 2)) (aCons (eFrz (eVar 1)) aNil))))), (4, (eFrz (eArgs lstD (aCons (eFrz (eVar 1)) aNil))))]) (eFrz (eVar 0)) (eFrz (eArgs lstD aNil))))
    (sSeq (sIf (tV (eBin neD (eCall g__law_kinds (aCons (eFrz (eVar 0)) (aCons (eFrz (eVar 1)) (aCons (eFrz (eVar 2)) aNil)))) (eBin plusD (eLc (iRng (aCons (eC (.int 8)) aNil)) (.nm 4) stYes (eBin eqD (eVar 4) (eVar 0))) (eArgs lstD (aCons (eC (.bl true)) aNil))))) (sRet (eC (.bl false))) sPass)
    (sRet (eBin eqD (eCall g__law_caught (aCons (eFrz (eVar 0)) (aCons (eFrz (eVar 1)) (aCons (eFrz (eVar 2)) aNil)))) (eBin plusD (eArgs lstD (aCons (eFrz (eVar 0)) aNil)) (eVar 3))))))
noncomputable def g__law_right : List Ar → FOut := runG 3 5 b__law_right
theorem n__law_right : ∀ as, g__law_right as ≠ .fail → as.length = 3 := runG_len
noncomputable def b_law : SS :=
    (sSeq (sSet 1 (eCall g__law_deal (aCons (eFrz (eVar 0)) (aCons (eC (.int 0)) aNil))))
    (sSeq (sPar2 2 3 (eArgs lstD aNil) (eArgs lstD aNil))
    (sSeq (sFor (iRng (aCons (eC (.int 8)) aNil)) (.nm 4) (sSeq (sApp 2 (eBin idxD (eArgs lstD (aCons (eFrz (eCall g__law_draw (aCons (eVar 1) (aCons (eC (.int 3)) aNil)))) (aCons (eFrz (eCall g__law_draw (aCons (eVar 1) (aCons (eBin powD (eC (.int 10)) (eC (.int 18))) aNil)))) aNil))) (eCall g__law_draw (aCons (eVar 1) (aCons (eC (.int 2)) aNil)))))
    (sSeq (sApp 3 (eFrz (eCall g__law_letters (aCons (eVar 1) aNil))))
    (sIf (stNot (tTr (eCall g__law_right (aCons (eFrz (eVar 4)) (aCons (eBin idxD (eVar 2) (eUn negD (eC (.int 1)))) (aCons (eBin idxD (eVar 3) (eUn negD (eC (.int 1)))) aNil)))))) (sRet (eC (.bl false))) sPass))))
    (sSeq (sIf (stNot (tTr (eUn allD (eLc (iRng (aCons (eC (.int 8)) aNil)) (.nm 4) stYes (eFrz (eCall g__law_right (aCons (eFrz (eVar 4)) (aCons (eBin idxD (eVar 2) (eBin subD (eVar 4) (eC (.int 3)))) (aCons (eBin idxD (eVar 3) (eBin subD (eVar 4) (eC (.int 2)))) aNil))))))))) (sRet (eC (.bl false))) sPass)
    (sSeq (sPar2 5 6 (eMkX1 "NoText" "row" (aCons (eBin idxD (eVar 2) (eC (.int 0))) aNil)) (eMkX1 "NoText" "row" (aCons (eBin idxD (eVar 2) (eC (.int 1))) aNil)))
    (sSeq (sPar2 7 8 (eMkX2 "NoProgram" "word" "row" (aCons (eBin idxD (eVar 3) (eC (.int 0))) (aCons (eBin idxD (eVar 2) (eC (.int 2))) aNil))) (eMkX2 "NoProgram" "word" "row" (aCons (eBin idxD (eVar 3) (eC (.int 1))) (aCons (eBin idxD (eVar 2) (eC (.int 3))) aNil))))
    (sSeq (sIf (tV (eBin neD (eArgs lstD (aCons (eFrz (eXg "NoText" "row" 5)) (aCons (eFrz (eXg "NoText" "row" 6)) (aCons (eFrz (eXgT "NotFlat" "row" (eMkX1 "NotFlat" "row" (aCons (eBin idxD (eVar 2) (eC (.int 4))) aNil)))) aNil)))) (eArgs lstD (aCons (eBin idxD (eVar 2) (eC (.int 0))) (aCons (eBin idxD (eVar 2) (eC (.int 1))) (aCons (eBin idxD (eVar 2) (eC (.int 4))) aNil)))))) (sRet (eC (.bl false))) sPass)
    (sRet (eBin eqD (eArgs lstD (aCons (eFrz (eXg "NoProgram" "word" 7)) (aCons (eFrz (eXg "NoProgram" "row" 7)) (aCons (eFrz (eXg "NoProgram" "word" 8)) (aCons (eFrz (eXg "NoProgram" "row" 8)) aNil))))) (eArgs lstD (aCons (eBin idxD (eVar 3) (eC (.int 0))) (aCons (eBin idxD (eVar 2) (eC (.int 2))) (aCons (eBin idxD (eVar 3) (eC (.int 1))) (aCons (eBin idxD (eVar 2) (eC (.int 3))) aNil))))))))))))))
noncomputable def g_law : List Ar → FOut := runG 1 9 b_law
/-! ### what stands behind the top -/
structure Tx (K : PySem.W.Frag) (mg : Str → Option Value) (w : World) where
  d__law_deal : Dn K mg "_law_deal" st__law_deal ["_law_script", "_law_base"]
  d__law_draw : Dn K mg "_law_draw" st__law_draw ["_law_deal_here", "_law_many"]
  d__law_letters : Dn K mg "_law_letters" st__law_letters ["_law_deal_here"]
  d__law_refuse : Dn K mg "_law_refuse" st__law_refuse ["_law_k", "_law_row", "_law_word"]
  d__law_caught : Dn K mg "_law_caught" st__law_caught ["_law_k", "_law_row", "_law_word"]
  d__law_kinds : Dn K mg "_law_kinds" st__law_kinds ["_law_k", "_law_row", "_law_word"]
  d__law_right : Dn K mg "_law_right" st__law_right ["_law_k", "_law_row", "_law_word"]
  d_law : Dn K mg "law" st_law ["_law_script"]
  z_ValueError : mg "ValueError" = none
  z_all : mg "all" = none
  z_isinstance : mg "isinstance" = none
  z_len : mg "len" = none
  z_list : mg "list" = none
  z_max : mg "max" = none
  z_range : mg "range" = none
  z_reversed : mg "reversed" = none
  x_NoRow : XcN K mg "NoRow"
  x_NoText : XcI1 K mg "NoText" "row"
  xf_NoText : XfC K x_NoText.C
  x_NoProgram : XcI2 K mg "NoProgram" "word" "row"
  xf_NoProgram : XfC K x_NoProgram.C
  x_NoTerm : XcN K mg "NoTerm"
  x_NoValue : XcN K mg "NoValue"
  x_NotFlat : XcI1 K mg "NotFlat" "row"
  xf_NotFlat : XfC K x_NotFlat.C
  x_NoKind : XcN K mg "NoKind"
  x_NoEdit : XcN K mg "NoEdit"
  x_SideError : XcM K mg "SideError"
  rs : RsC K mg RS
  rk : RkC K mg RS
  hx_NoRow : ∀ r ∈ RS, ∀ cls, mg r = some cls → PySem.W.exmOne K cls (.ref x_NoRow.C) = some (subX r "NoRow")
  hx_NoEdit : ∀ r ∈ RS, ∀ cls, mg r = some cls → PySem.W.exmOne K cls (.ref x_NoEdit.C) = some (subX r "NoEdit")
  hx_NoKind : ∀ r ∈ RS, ∀ cls, mg r = some cls → PySem.W.exmOne K cls (.ref x_NoKind.C) = some (subX r "NoKind")
  hx_NotFlat : ∀ r ∈ RS, ∀ cls, mg r = some cls → PySem.W.exmOne K cls (.ref x_NotFlat.C) = some (subX r "NotFlat")
  hx_NoValue : ∀ r ∈ RS, ∀ cls, mg r = some cls → PySem.W.exmOne K cls (.ref x_NoValue.C) = some (subX r "NoValue")
  hx_NoTerm : ∀ r ∈ RS, ∀ cls, mg r = some cls → PySem.W.exmOne K cls (.ref x_NoTerm.C) = some (subX r "NoTerm")
  hx_NoProgram : ∀ r ∈ RS, ∀ cls, mg r = some cls → PySem.W.exmOne K cls (.ref x_NoProgram.C) = some (subX r "NoProgram")
  hx_NoText : ∀ r ∈ RS, ∀ cls, mg r = some cls → PySem.W.exmOne K cls (.ref x_NoText.C) = some (subX r "NoText")
  hx_SideError : ∀ r ∈ RS, ∀ cls, mg r = some cls → PySem.W.exmOne K cls (.ref x_SideError.C) = some (subX r "SideError")
  is_NoText : XisK K mg RS "NoText" (.ref x_NoText.C)
  is_NoProgram : XisK K mg RS "NoProgram" (.ref x_NoProgram.C)
  is_NoTerm : XisK K mg RS "NoTerm" (.ref x_NoTerm.C)
  is_NoValue : XisK K mg RS "NoValue" (.ref x_NoValue.C)
  is_NotFlat : XisK K mg RS "NotFlat" (.ref x_NotFlat.C)
  is_NoKind : XisK K mg RS "NoKind" (.ref x_NoKind.C)
  is_NoEdit : XisK K mg RS "NoEdit" (.ref x_NoEdit.C)
  is_NoRow : XisK K mg RS "NoRow" (.ref x_NoRow.C)
  is_ValueError : XisK K mg RS "ValueError" (.type "ValueError")
section
variable {P : Program} {w : World} {K : PySem.W.Frag} {mg : Str → Option Value} {base : Heap}
theorem ok__law_deal (T : Tx K mg w) : FnOk P w K mg base (L2N.CX P w) 1 T.d__law_deal.f T.d__law_deal.fd ["_law_script", "_law_base"] (fsp K mg 2 g__law_deal) := by
  refine fn_okG T.d__law_deal.F sc__law_deal (fun X E cdv A outer s H hX C => ?_)
  subst hX
  exact (pbd_cons (psd_setLc 2 C [("_law_one", 3)] rfl (pid_of (pd_frz (pd_slc (pd_var 0) (pod_at (pd_var 1)) (pod_at pd_int)))) (blkOk_by (own := [("_law_one", 3)]) (N := N__law_deal) (sc := defScope st__law_deal) (by decide +kernel)) (fun s H D cl fp C => ⟨(pgd_nm 3 C.nd), ptsd_nil, (pd_call2 T.z_max (by rfl) (call_maxD C.calm) (pd_var 3) (pd_op op_subD pd_int (pd_var 3)))⟩) (sw_true rfl rfl rfl (by decide +kernel)))
    (pbd_cons (psd_set 4 C.nd (pd_op op_plusD pd_int (pd_var 1)))
    (pbd_cons (psd_for C (pid_of (pd_frz (pd_var 2))) (pgd_nm 3 C.nd) (pbd_one (psd_set 4 C.nd (pd_op op_modD (pd_op op_plusD (pd_op op_timesD (pd_var 4) pd_int) (pd_op op_modD (pd_var 3) pd_int)) pd_int))))
    (pbd_one (psd_ret (pd_deal (pd_var 4) pd_int (pd_lrev C T.z_list T.z_reversed (pd_lc C [("_law_one", 3)] rfl (pid_of (pd_frz (pd_var 2))) (blkOk_by (own := [("_law_one", 3)]) (N := N__law_deal) (sc := defScope st__law_deal) (by decide +kernel)) (fun s H D cl fp C => ⟨(pgd_nm 3 C.nd), (ptsd_one (ptd_cmp op_geD (pd_var 3) (pd_op op_powD pd_int pd_int))), (pd_frz (pd_var 3))⟩)))))))))
theorem ok__law_draw (T : Tx K mg w) : FnOk P w K mg base (L2N.CX P w) 1 T.d__law_draw.f T.d__law_draw.fd ["_law_deal_here", "_law_many"] (fsp K mg 2 g__law_draw) := by
  refine fn_okG T.d__law_draw.F sc__law_draw (fun X E cdv A outer s H hX C => ?_)
  subst hX
  exact (pbd_cons (psd_while C (PWd.pt (pwd_and (ptd_cmp (op_eqDD C.u64) (pd_ix C (pd_var 0) (pd_str [110, 117, 109, 98, 101, 114])) pd_int) (pwd_and1 (ptd_cmp op_gtD (pd_lenL 0 C T.z_len) pd_int)))) (pbd_one (psd_put 0 C (pd_str [110, 117, 109, 98, 101, 114]) (pd_frz (pd_popL 0 C)))))
    (pbd_cons (psd_set 2 C.nd (pd_ix C (pd_var 0) (pd_str [110, 117, 109, 98, 101, 114])))
    (pbd_cons (psd_if (ptd_cmp op_gtD (pd_var 2) pd_int) (pbd_cons (psd_put 0 C (pd_str [110, 117, 109, 98, 101, 114]) (pd_op op_fdivD (pd_var 2) (pd_var 1)))
    (pbd_one (psd_ret (pd_op op_modD (pd_var 2) (pd_var 1))))) pbd_nil)
    (pbd_cons (psd_set 3 C.nd (pd_op op_modD (pd_op op_plusD (pd_op op_timesD (pd_ix C (pd_var 0) (pd_str [115, 101, 101, 100])) pd_int) pd_int) pd_int))
    (pbd_cons (psd_put 0 C (pd_str [115, 101, 101, 100]) (pd_op op_modD (pd_op op_plusD (pd_op op_timesD (pd_var 3) pd_int) pd_int) pd_int))
    (pbd_cons (psd_set 4 C.nd (pd_op op_modD (pd_op op_timesD (pd_ix C (pd_var 0) (pd_str [115, 101, 101, 100])) (pd_ix C (pd_var 0) (pd_str [115, 101, 101, 100]))) pd_int))
    (pbd_one (psd_ret (pd_op op_modD (pd_op op_plusD (pd_op op_timesD (pd_op op_modD (pd_op op_timesD (pd_var 3) (pd_var 3)) pd_int) pd_int) (pd_var 4)) (pd_var 1))))))))))
theorem ok__law_letters (T : Tx K mg w) : FnOk P w K mg base (L2N.CX P w) 2 T.d__law_letters.f T.d__law_letters.fd ["_law_deal_here"] (fsp K mg 1 g__law_letters) := by
  refine fn_okG T.d__law_letters.F sc__law_letters (fun X E cdv A outer s H hX C => ?_)
  subst hX
  exact (pbd_cons (psd_set 1 C.nd (pd_str [97, 98, 99, 100, 101, 102, 103, 104, 105, 106, 107, 108, 109, 110, 111, 112, 113, 114, 115, 116, 117, 118, 119, 120, 121, 122]))
    (pbd_one (psd_ret (pd_join (pd_str []) (pd_lc C [("_law_k", 2)] rfl (pid_rng1 T.z_range (pad_cons (pd_op op_plusD pd_int (pd_call C (ok__law_draw T) T.d__law_draw.g T.d__law_draw.F.kp T.d__law_draw.b n__law_draw (pad_cons (pd_var 0) (pad_cons pd_int pad_nil)))) pad_nil)) (blkOk_by (own := [("_law_k", 2)]) (N := N__law_letters) (sc := defScope st__law_letters) (by decide +kernel)) (fun s H D cl fp C => ⟨(pgd_nm 2 C.nd), ptsd_nil, (pd_ix C (pd_var 1) (pd_call C (ok__law_draw T) T.d__law_draw.g T.d__law_draw.F.kp T.d__law_draw.b n__law_draw (pad_cons (pd_var 0) (pad_cons pd_int pad_nil))))⟩))))))
theorem ok__law_refuse (T : Tx K mg w) : FnOk P w K mg base (L2N.CX P w) 3 T.d__law_refuse.f T.d__law_refuse.fd ["_law_k", "_law_row", "_law_word"] (fsp K mg 3 g__law_refuse) := by
  refine fn_okG T.d__law_refuse.F sc__law_refuse (fun X E cdv A outer s H hX C => ?_)
  subst hX
  exact (pbd_cons (psd_if (ptd_cmp (op_eqDD C.u64) (pd_var 0) pd_int) (pbd_one (psd_raise1 C T.x_NoText (pad_cons (pd_frz (pd_var 1)) pad_nil))) pbd_nil)
    (pbd_cons (psd_if (ptd_cmp (op_eqDD C.u64) (pd_var 0) pd_int) (pbd_one (psd_raise2 C T.x_NoProgram (pad_cons (pd_frz (pd_var 2)) (pad_cons (pd_frz (pd_var 1)) pad_nil)))) pbd_nil)
    (pbd_cons (psd_if (ptd_cmp (op_eqDD C.u64) (pd_var 0) pd_int) (pbd_one (psd_raise0 C T.x_NoTerm)) pbd_nil)
    (pbd_cons (psd_if (ptd_cmp (op_eqDD C.u64) (pd_var 0) pd_int) (pbd_one (psd_raise0 C T.x_NoValue)) pbd_nil)
    (pbd_cons (psd_if (ptd_cmp (op_eqDD C.u64) (pd_var 0) pd_int) (pbd_one (psd_raise1 C T.x_NotFlat (pad_cons (pd_frz (pd_var 1)) pad_nil))) pbd_nil)
    (pbd_cons (psd_if (ptd_cmp (op_eqDD C.u64) (pd_var 0) pd_int) (pbd_one (psd_raise0 C T.x_NoKind)) pbd_nil)
    (pbd_cons (psd_if (ptd_cmp (op_eqDD C.u64) (pd_var 0) pd_int) (pbd_one (psd_raise0 C T.x_NoEdit)) pbd_nil)
    (pbd_one (psd_raise0 C T.x_NoRow)))))))))
theorem ok__law_caught (T : Tx K mg w) : FnOk P w K mg base (L2N.CX P w) 4 T.d__law_caught.f T.d__law_caught.fd ["_law_k", "_law_row", "_law_word"] (fsp K mg 3 g__law_caught) := by
  refine fn_okG T.d__law_caught.F sc__law_caught (fun X E cdv A outer s H hX C => ?_)
  subst hX
  exact (pbd_cons (psd_set 3 C.nd pd_non)
    (pbd_cons (psd_try_many C (fun W1 pn1 xe1 C => (pbd_one (psd_expr (pd_call C (ok__law_refuse T) T.d__law_refuse.g T.d__law_refuse.F.kp T.d__law_refuse.b n__law_refuse (pad_cons (pd_frz (pd_var 0)) (pad_cons (pd_frz (pd_var 1)) (pad_cons (pd_frz (pd_var 2)) pad_nil))))))) (.as_ T.hx_NoText ⟨rfl, by decide, .inl T.x_NoText.m⟩ rfl rfl (fun xa xoe xcls xd xpn xn hz hf hm hcls => (pbd_one (psd_set 3 C.nd (pd_lst (pad_cons pd_int (pad_cons (pd_frz (pd_xf T.xf_NoText T.x_NoText.m T.x_NoText.n hz hf hcls)) pad_nil)))))) (.as_ T.hx_NoProgram ⟨rfl, by decide, .inl T.x_NoProgram.m⟩ rfl rfl (fun xa xoe xcls xd xpn xn hz hf hm hcls => (pbd_one (psd_set 3 C.nd (pd_lst (pad_cons pd_int (pad_cons (pd_frz (pd_xf T.xf_NoProgram T.x_NoProgram.m T.x_NoProgram.n hz hf hcls)) (pad_cons (pd_frz (pd_xf T.xf_NoProgram T.x_NoProgram.m T.x_NoProgram.n2 hz hf hcls)) pad_nil))))))) (.cons T.hx_NoTerm ⟨rfl, by decide, .inl T.x_NoTerm.m⟩ (fun xa xoe xcls xd xpn xn hz hf hm hcls => (pbd_one (psd_set 3 C.nd (pd_lst (pad_cons pd_int pad_nil))))) (.cons T.hx_NoValue ⟨rfl, by decide, .inl T.x_NoValue.m⟩ (fun xa xoe xcls xd xpn xn hz hf hm hcls => (pbd_one (psd_set 3 C.nd (pd_lst (pad_cons pd_int pad_nil))))) (.as_ T.hx_NotFlat ⟨rfl, by decide, .inl T.x_NotFlat.m⟩ rfl rfl (fun xa xoe xcls xd xpn xn hz hf hm hcls => (pbd_one (psd_set 3 C.nd (pd_lst (pad_cons pd_int (pad_cons (pd_frz (pd_xf T.xf_NotFlat T.x_NotFlat.m T.x_NotFlat.n hz hf hcls)) pad_nil)))))) (.cons T.hx_NoKind ⟨rfl, by decide, .inl T.x_NoKind.m⟩ (fun xa xoe xcls xd xpn xn hz hf hm hcls => (pbd_one (psd_set 3 C.nd (pd_lst (pad_cons pd_int pad_nil))))) (.cons T.hx_NoEdit ⟨rfl, by decide, .inl T.x_NoEdit.m⟩ (fun xa xoe xcls xd xpn xn hz hf hm hcls => (pbd_one (psd_set 3 C.nd (pd_lst (pad_cons pd_int pad_nil))))) (.cons T.hx_NoRow ⟨rfl, by decide, .inl T.x_NoRow.m⟩ (fun xa xoe xcls xd xpn xn hz hf hm hcls => (pbd_one (psd_set 3 C.nd (pd_lst (pad_cons pd_int pad_nil))))) .nil)))))))))
    (pbd_one (psd_ret (pd_var 3)))))
theorem ok__law_kinds (T : Tx K mg w) : FnOk P w K mg base (L2N.CX P w) 4 T.d__law_kinds.f T.d__law_kinds.fd ["_law_k", "_law_row", "_law_word"] (fsp K mg 3 g__law_kinds) := by
  refine fn_okG T.d__law_kinds.F sc__law_kinds (fun X E cdv A outer s H hX C => ?_)
  subst hX
  exact (pbd_cons (psd_set 3 C.nd pd_non)
    (pbd_cons (psd_try_as C T.hx_SideError ⟨rfl, by decide, .inl T.x_SideError.m⟩ rfl rfl (fun W1 pn1 xe1 C => (pbd_one (psd_expr (pd_call C (ok__law_refuse T) T.d__law_refuse.g T.d__law_refuse.F.kp T.d__law_refuse.b n__law_refuse (pad_cons (pd_frz (pd_var 0)) (pad_cons (pd_frz (pd_var 1)) (pad_cons (pd_frz (pd_var 2)) pad_nil))))))) (fun xa xoe xcls xd xpn xn hz hf hm hcls => (pbd_cons (psd_set 3 C.nd (pd_lst (pad_cons (pd_isC (v := .ref T.x_NoText.C) hz hf hm hcls T.rs T.is_NoText (pe_glob (v := .ref T.x_NoText.C) rfl T.x_NoText.m rfl) (fun u r => r) T.z_isinstance) (pad_cons (pd_isC (v := .ref T.x_NoProgram.C) hz hf hm hcls T.rs T.is_NoProgram (pe_glob (v := .ref T.x_NoProgram.C) rfl T.x_NoProgram.m rfl) (fun u r => r) T.z_isinstance) (pad_cons (pd_isC (v := .ref T.x_NoTerm.C) hz hf hm hcls T.rs T.is_NoTerm (pe_glob (v := .ref T.x_NoTerm.C) rfl T.x_NoTerm.m rfl) (fun u r => r) T.z_isinstance) (pad_cons (pd_isC (v := .ref T.x_NoValue.C) hz hf hm hcls T.rs T.is_NoValue (pe_glob (v := .ref T.x_NoValue.C) rfl T.x_NoValue.m rfl) (fun u r => r) T.z_isinstance) pad_nil))))))
    (pbd_cons (psd_set 3 C.nd (pd_op op_plusD (pd_var 3) (pd_lst (pad_cons (pd_isC (v := .ref T.x_NotFlat.C) hz hf hm hcls T.rs T.is_NotFlat (pe_glob (v := .ref T.x_NotFlat.C) rfl T.x_NotFlat.m rfl) (fun u r => r) T.z_isinstance) (pad_cons (pd_isC (v := .ref T.x_NoKind.C) hz hf hm hcls T.rs T.is_NoKind (pe_glob (v := .ref T.x_NoKind.C) rfl T.x_NoKind.m rfl) (fun u r => r) T.z_isinstance) (pad_cons (pd_isC (v := .ref T.x_NoEdit.C) hz hf hm hcls T.rs T.is_NoEdit (pe_glob (v := .ref T.x_NoEdit.C) rfl T.x_NoEdit.m rfl) (fun u r => r) T.z_isinstance) (pad_cons (pd_isC (v := .ref T.x_NoRow.C) hz hf hm hcls T.rs T.is_NoRow (pe_glob (v := .ref T.x_NoRow.C) rfl T.x_NoRow.m rfl) (fun u r => r) T.z_isinstance) pad_nil)))))))
    (pbd_one (psd_set 3 C.nd (pd_op op_plusD (pd_var 3) (pd_lst (pad_cons (pd_isC (v := .ty "ValueError") hz hf hm hcls T.rs T.is_ValueError (pe_bltn (v := .ty "ValueError") rfl T.z_ValueError rfl rfl) (fun u r => r) T.z_isinstance) pad_nil)))))))))
    (pbd_one (psd_ret (pd_var 3)))))
theorem ok__law_right (T : Tx K mg w) : FnOk P w K mg base (L2N.CX P w) 5 T.d__law_right.f T.d__law_right.fd ["_law_k", "_law_row", "_law_word"] (fsp K mg 3 g__law_right) := by
  refine fn_okG T.d__law_right.F sc__law_right (fun X E cdv A outer s H hX C => ?_)
  subst hX
  exact (pbd_cons (psd_set 3 C.nd (pd_get2 C (pd_dspI (.cons (pd_frz (pd_lst (pad_cons (pd_frz (pd_var 1)) pad_nil))) (.cons (pd_frz (pd_lst (pad_cons (pd_frz (pd_var 2)) (pad_cons (pd_frz (pd_var 1)) pad_nil)))) (.cons (pd_frz (pd_lst (pad_cons (pd_frz (pd_var 1)) pad_nil))) .nil)))) (pd_frz (pd_var 0)) (pd_frz (pd_lst pad_nil))))
    (pbd_cons (psd_if (ptd_cmp (op_neDD C.u64) (pd_call C (ok__law_kinds T) T.d__law_kinds.g T.d__law_kinds.F.kp T.d__law_kinds.b n__law_kinds (pad_cons (pd_frz (pd_var 0)) (pad_cons (pd_frz (pd_var 1)) (pad_cons (pd_frz (pd_var 2)) pad_nil)))) (pd_op op_plusD (pd_lc C [("_law_at", 4)] rfl (pid_rng1 T.z_range (pad_cons pd_int pad_nil)) (blkOk_by (own := [("_law_at", 4)]) (N := N__law_right) (sc := defScope st__law_right) (by decide +kernel)) (fun s H D cl fp C => ⟨(pgd_nm 4 C.nd), ptsd_nil, (pd_cmp (op_eqDD C.u64) (pd_var 4) (pd_var 0))⟩)) (pd_lst (pad_cons pd_bl pad_nil)))) (pbd_one (psd_ret pd_bl)) pbd_nil)
    (pbd_one (psd_ret (pd_cmp (op_eqDD C.u64) (pd_call C (ok__law_caught T) T.d__law_caught.g T.d__law_caught.F.kp T.d__law_caught.b n__law_caught (pad_cons (pd_frz (pd_var 0)) (pad_cons (pd_frz (pd_var 1)) (pad_cons (pd_frz (pd_var 2)) pad_nil)))) (pd_op op_plusD (pd_lst (pad_cons (pd_frz (pd_var 0)) pad_nil)) (pd_var 3)))))))
theorem ok_law (T : Tx K mg w) : FnOk P w K mg base (L2N.CX P w) 6 T.d_law.f T.d_law.fd ["_law_script"] (fsp K mg 1 g_law) := by
  refine fn_okG T.d_law.F sc_law (fun X E cdv A outer s H hX C => ?_)
  subst hX
  exact (pbd_cons (psd_set 1 C.nd (pd_call C (ok__law_deal T) T.d__law_deal.g T.d__law_deal.F.kp T.d__law_deal.b n__law_deal (pad_cons (pd_frz (pd_var 0)) (pad_cons pd_int pad_nil))))
    (pbd_cons (psd_par2c (i := 2) (j := 3) C (pd_lst pad_nil) (pd_lst pad_nil))
    (pbd_cons (psd_for C (pid_rng1 T.z_range (pad_cons pd_int pad_nil)) (pgd_nm 4 C.nd) (pbd_cons (psd_app (pd_ix C (pd_lst (pad_cons (pd_frz (pd_call C (ok__law_draw T) T.d__law_draw.g T.d__law_draw.F.kp T.d__law_draw.b n__law_draw (pad_cons (pd_var 1) (pad_cons pd_int pad_nil)))) (pad_cons (pd_frz (pd_call C (ok__law_draw T) T.d__law_draw.g T.d__law_draw.F.kp T.d__law_draw.b n__law_draw (pad_cons (pd_var 1) (pad_cons (pd_op op_powD pd_int pd_int) pad_nil)))) pad_nil))) (pd_call C (ok__law_draw T) T.d__law_draw.g T.d__law_draw.F.kp T.d__law_draw.b n__law_draw (pad_cons (pd_var 1) (pad_cons pd_int pad_nil)))))
    (pbd_cons (psd_app (pd_frz (pd_call C (ok__law_letters T) T.d__law_letters.g T.d__law_letters.F.kp T.d__law_letters.b n__law_letters (pad_cons (pd_var 1) pad_nil))))
    (pbd_one (psd_if (ptd_not (ptd_tru (pd_call C (ok__law_right T) T.d__law_right.g T.d__law_right.F.kp T.d__law_right.b n__law_right (pad_cons (pd_frz (pd_var 4)) (pad_cons (pd_ix C (pd_var 2) (pd_neg pd_int)) (pad_cons (pd_ix C (pd_var 3) (pd_neg pd_int)) pad_nil)))))) (pbd_one (psd_ret pd_bl)) pbd_nil)))))
    (pbd_cons (psd_if (ptd_not (ptd_tru (pd_call1 T.z_all (by rfl) (call_allD C.calm) (pd_lc C [("_law_k", 4)] rfl (pid_rng1 T.z_range (pad_cons pd_int pad_nil)) (blkOk_by (own := [("_law_k", 4)]) (N := N_law) (sc := defScope st_law) (by decide +kernel)) (fun s H D cl fp C => ⟨(pgd_nm 4 C.nd), ptsd_nil, (pd_frz (pd_call C (ok__law_right T) T.d__law_right.g T.d__law_right.F.kp T.d__law_right.b n__law_right (pad_cons (pd_frz (pd_var 4)) (pad_cons (pd_ix C (pd_var 2) (pd_op op_subD (pd_var 4) pd_int)) (pad_cons (pd_ix C (pd_var 3) (pd_op op_subD (pd_var 4) pd_int)) pad_nil)))))⟩))))) (pbd_one (psd_ret pd_bl)) pbd_nil)
    (pbd_cons (psd_par2 (i := 5) (j := 6) C (pd_mkx1 C T.x_NoText (T.rk "NoText" (by decide +kernel) _ T.x_NoText.m) (pad_cons (pd_ix C (pd_var 2) pd_int) pad_nil)) (pd_mkx1 C T.x_NoText (T.rk "NoText" (by decide +kernel) _ T.x_NoText.m) (pad_cons (pd_ix C (pd_var 2) pd_int) pad_nil)))
    (pbd_cons (psd_par2 (i := 7) (j := 8) C (pd_mkx2 C T.x_NoProgram (T.rk "NoProgram" (by decide +kernel) _ T.x_NoProgram.m) (pad_cons (pd_ix C (pd_var 3) pd_int) (pad_cons (pd_ix C (pd_var 2) pd_int) pad_nil))) (pd_mkx2 C T.x_NoProgram (T.rk "NoProgram" (by decide +kernel) _ T.x_NoProgram.m) (pad_cons (pd_ix C (pd_var 3) pd_int) (pad_cons (pd_ix C (pd_var 2) pd_int) pad_nil))))
    (pbd_cons (psd_if (ptd_cmp (op_neDD C.u64) (pd_lst (pad_cons (pd_frz (pd_xg 5 T.xf_NoText (T.rk "NoText" (by decide +kernel) _ T.x_NoText.m) T.x_NoText.n)) (pad_cons (pd_frz (pd_xg 6 T.xf_NoText (T.rk "NoText" (by decide +kernel) _ T.x_NoText.m) T.x_NoText.n)) (pad_cons (pd_frz (pd_xgT T.xf_NotFlat (T.rk "NotFlat" (by decide +kernel) _ T.x_NotFlat.m) T.x_NotFlat.n (pd_mkx1 C T.x_NotFlat (T.rk "NotFlat" (by decide +kernel) _ T.x_NotFlat.m) (pad_cons (pd_ix C (pd_var 2) pd_int) pad_nil)))) pad_nil)))) (pd_lst (pad_cons (pd_ix C (pd_var 2) pd_int) (pad_cons (pd_ix C (pd_var 2) pd_int) (pad_cons (pd_ix C (pd_var 2) pd_int) pad_nil))))) (pbd_one (psd_ret pd_bl)) pbd_nil)
    (pbd_one (psd_ret (pd_cmp (op_eqDD C.u64) (pd_lst (pad_cons (pd_frz (pd_xg 7 T.xf_NoProgram (T.rk "NoProgram" (by decide +kernel) _ T.x_NoProgram.m) T.x_NoProgram.n)) (pad_cons (pd_frz (pd_xg 7 T.xf_NoProgram (T.rk "NoProgram" (by decide +kernel) _ T.x_NoProgram.m) T.x_NoProgram.n2)) (pad_cons (pd_frz (pd_xg 8 T.xf_NoProgram (T.rk "NoProgram" (by decide +kernel) _ T.x_NoProgram.m) T.x_NoProgram.n)) (pad_cons (pd_frz (pd_xg 8 T.xf_NoProgram (T.rk "NoProgram" (by decide +kernel) _ T.x_NoProgram.m) T.x_NoProgram.n2)) pad_nil))))) (pd_lst (pad_cons (pd_ix C (pd_var 3) pd_int) (pad_cons (pd_ix C (pd_var 2) pd_int) (pad_cons (pd_ix C (pd_var 3) pd_int) (pad_cons (pd_ix C (pd_var 2) pd_int) pad_nil)))))))))))))))
end
/-! ### the end -/
theorem all_mk {l : PySem.W.OpenLaw} {w : World} {K : PySem.W.Frag} {h : Heap} {mg : Str → Option Value} {fa : Addr} (X : K.In h) (G : h.Ns mainGlobals mg) (hfa : mg "law" = some (.ref fa))
    {f0 f1 f2 f3 f4 f5 f6 f7 : Addr}
    {od0 an0 od1 an1 od2 an2 od3 an3 od4 an4 od5 an5 od6 an6 od7 an7 : Option Addr}
    {sl0 sl1 sl2 sl3 sl4 sl5 sl6 sl7 : Array (Option Value)}
    {oc0 kV0 dc0 pm0 cd0 ct0 oc1 kV1 dc1 pm1 cd1 ct1 oc2 kV2 dc2 pm2 cd2 ct2 oc3 kV3 dc3 pm3 cd3 ct3 oc4 kV4 dc4 pm4 cd4 ct4 oc5 kV5 dc5 pm5 cd5 ct5 oc6 kV6 dc6 pm6 cd6 ct6 oc7 kV7 dc7 pm7 cd7 ct7 : Value}
    {C_NoRow : Addr}
    {C_NoText : Addr}
    {nm_NoText qn_NoText : Str} {N_NoText S_NoText fI_NoText : Addr} {bs_NoText sub_NoText : List Value} {sn_NoText : List Str} {ab_NoText : Bool} {col_NoText : Option Bool} {dd_NoText odI_NoText anI_NoText : Option Addr} {m0_NoText m1_NoText m2_NoText m3_NoText m5_NoText : Option Value} {slI_NoText : Array (Option Value)} {ocI_NoText kVI_NoText dcI_NoText pmI_NoText cdI_NoText ctI_NoText : Value}
    {C_NoProgram : Addr}
    {nm_NoProgram qn_NoProgram : Str} {N_NoProgram S_NoProgram fI_NoProgram : Addr} {bs_NoProgram sub_NoProgram : List Value} {sn_NoProgram : List Str} {ab_NoProgram : Bool} {col_NoProgram : Option Bool} {dd_NoProgram odI_NoProgram anI_NoProgram : Option Addr} {m0_NoProgram m1_NoProgram m2_NoProgram m3_NoProgram m5_NoProgram : Option Value} {slI_NoProgram : Array (Option Value)} {ocI_NoProgram kVI_NoProgram dcI_NoProgram pmI_NoProgram cdI_NoProgram ctI_NoProgram : Value}
    {C_NoTerm : Addr}
    {C_NoValue : Addr}
    {C_NotFlat : Addr}
    {nm_NotFlat qn_NotFlat : Str} {N_NotFlat S_NotFlat fI_NotFlat : Addr} {bs_NotFlat sub_NotFlat : List Value} {sn_NotFlat : List Str} {ab_NotFlat : Bool} {col_NotFlat : Option Bool} {dd_NotFlat odI_NotFlat anI_NotFlat : Option Addr} {m0_NotFlat m1_NotFlat m2_NotFlat m3_NotFlat m5_NotFlat : Option Value} {slI_NotFlat : Array (Option Value)} {ocI_NotFlat kVI_NotFlat dcI_NotFlat pmI_NotFlat cdI_NotFlat ctI_NotFlat : Value}
    {C_NoKind : Addr}
    {C_NoEdit : Addr}
    {C_SideError : Addr}
    (a0 : PySem.W.nsIn K mainGlobals "_law_deal" = some (some (.ref f0))) (l0 : K.lookup f0 = some ⟨oc0, od0, .func (PySem.W.fnOf "_law_deal" "_law_deal" (defArgs st__law_deal) (defBody st__law_deal) (defScope st__law_deal) .none kV0 dc0 pm0 an0 cd0 ct0), sl0⟩) (c0 : PySem.W.codeIn K cd0 "_law_deal" = true) (k0 : PySem.W.keepIn K (.ref f0) = true)
    (a1 : PySem.W.nsIn K mainGlobals "_law_draw" = some (some (.ref f1))) (l1 : K.lookup f1 = some ⟨oc1, od1, .func (PySem.W.fnOf "_law_draw" "_law_draw" (defArgs st__law_draw) (defBody st__law_draw) (defScope st__law_draw) .none kV1 dc1 pm1 an1 cd1 ct1), sl1⟩) (c1 : PySem.W.codeIn K cd1 "_law_draw" = true) (k1 : PySem.W.keepIn K (.ref f1) = true)
    (a2 : PySem.W.nsIn K mainGlobals "_law_letters" = some (some (.ref f2))) (l2 : K.lookup f2 = some ⟨oc2, od2, .func (PySem.W.fnOf "_law_letters" "_law_letters" (defArgs st__law_letters) (defBody st__law_letters) (defScope st__law_letters) .none kV2 dc2 pm2 an2 cd2 ct2), sl2⟩) (c2 : PySem.W.codeIn K cd2 "_law_letters" = true) (k2 : PySem.W.keepIn K (.ref f2) = true)
    (a3 : PySem.W.nsIn K mainGlobals "_law_refuse" = some (some (.ref f3))) (l3 : K.lookup f3 = some ⟨oc3, od3, .func (PySem.W.fnOf "_law_refuse" "_law_refuse" (defArgs st__law_refuse) (defBody st__law_refuse) (defScope st__law_refuse) .none kV3 dc3 pm3 an3 cd3 ct3), sl3⟩) (c3 : PySem.W.codeIn K cd3 "_law_refuse" = true) (k3 : PySem.W.keepIn K (.ref f3) = true)
    (a4 : PySem.W.nsIn K mainGlobals "_law_caught" = some (some (.ref f4))) (l4 : K.lookup f4 = some ⟨oc4, od4, .func (PySem.W.fnOf "_law_caught" "_law_caught" (defArgs st__law_caught) (defBody st__law_caught) (defScope st__law_caught) .none kV4 dc4 pm4 an4 cd4 ct4), sl4⟩) (c4 : PySem.W.codeIn K cd4 "_law_caught" = true) (k4 : PySem.W.keepIn K (.ref f4) = true)
    (a5 : PySem.W.nsIn K mainGlobals "_law_kinds" = some (some (.ref f5))) (l5 : K.lookup f5 = some ⟨oc5, od5, .func (PySem.W.fnOf "_law_kinds" "_law_kinds" (defArgs st__law_kinds) (defBody st__law_kinds) (defScope st__law_kinds) .none kV5 dc5 pm5 an5 cd5 ct5), sl5⟩) (c5 : PySem.W.codeIn K cd5 "_law_kinds" = true) (k5 : PySem.W.keepIn K (.ref f5) = true)
    (a6 : PySem.W.nsIn K mainGlobals "_law_right" = some (some (.ref f6))) (l6 : K.lookup f6 = some ⟨oc6, od6, .func (PySem.W.fnOf "_law_right" "_law_right" (defArgs st__law_right) (defBody st__law_right) (defScope st__law_right) .none kV6 dc6 pm6 an6 cd6 ct6), sl6⟩) (c6 : PySem.W.codeIn K cd6 "_law_right" = true) (k6 : PySem.W.keepIn K (.ref f6) = true)
    (a7 : PySem.W.nsIn K mainGlobals "law" = some (some (.ref f7))) (l7 : K.lookup f7 = some ⟨oc7, od7, .func (PySem.W.fnOf "law" "law" (defArgs st_law) (defBody st_law) (defScope st_law) .none kV7 dc7 pm7 an7 cd7 ct7), sl7⟩) (c7 : PySem.W.codeIn K cd7 "law" = true) (k7 : PySem.W.keepIn K (.ref f7) = true)
    (en : PySem.W.specialIn K (.builtin "object.__class__") "__get__" = some (some (.builtin "getset_descriptor.__get__"))) (et : PySem.W.takesIn K (.builtin "object.__class__") = some true)
    (ac_NoRow : PySem.W.nsIn K mainGlobals "NoRow" = some (some (.ref C_NoRow)))
    (kc_NoRow : PySem.W.keepIn K (.ref C_NoRow) = true)
    (sc_NoRow : PySem.W.subIn K (.ref C_NoRow) (.type "BaseException") = some true)
    (tc_NoRow : PySem.W.typeIn K (.ref C_NoRow) = some (.type "type"))
    (eg_NoRow : PySem.W.findIn K (.ref C_NoRow) "__getattribute__" = some (some (.builtin "BaseException.__getattribute__")))
    (ek_NoRow : PySem.W.findIn K (.ref C_NoRow) "__getattr__" = some none)
    (ed_NoRow : PySem.W.hasDictIn K C_NoRow = true)
    (ea_NoRow : PySem.W.findIn K (.ref C_NoRow) "__class__" = some (some (.builtin "object.__class__")))
    (em_NoRow : PySem.W.mroIn K C_NoRow (.type "object") = some true)
    (xq_NoRow : PySem.W.excIn K C_NoRow veMro "ValueError.__new__" = true)
    (ac_NoText : PySem.W.nsIn K mainGlobals "NoText" = some (some (.ref C_NoText)))
    (kc_NoText : PySem.W.keepIn K (.ref C_NoText) = true)
    (sc_NoText : PySem.W.subIn K (.ref C_NoText) (.type "BaseException") = some true)
    (tc_NoText : PySem.W.typeIn K (.ref C_NoText) = some (.type "type"))
    (eg_NoText : PySem.W.findIn K (.ref C_NoText) "__getattribute__" = some (some (.builtin "BaseException.__getattribute__")))
    (ek_NoText : PySem.W.findIn K (.ref C_NoText) "__getattr__" = some none)
    (ed_NoText : PySem.W.hasDictIn K C_NoText = true)
    (ea_NoText : PySem.W.findIn K (.ref C_NoText) "__class__" = some (some (.builtin "object.__class__")))
    (em_NoText : PySem.W.mroIn K C_NoText (.type "object") = some true)
    (xl_NoText : K.lookup C_NoText = some (excClassObj nm_NoText qn_NoText C_NoText N_NoText bs_NoText (.ref S_NoText :: veMro) true sn_NoText sub_NoText ab_NoText col_NoText dd_NoText m0_NoText m1_NoText m2_NoText m3_NoText m5_NoText "ValueError.__new__"))
    (sa_NoText : PySem.W.findIn K (.ref C_NoText) "__setattr__" = some (some (.builtin "object.__setattr__")))
    (ic_NoText : PySem.W.findIn K (.ref C_NoText) "__init__" = some (some (.ref fI_NoText)))
    (ti_NoText : PySem.W.typeIn K (.ref fI_NoText) = some (.type "function"))
    (nf_NoText_row : PySem.W.findIn K (.ref C_NoText) "row" = some none)
    (li_NoText : K.lookup fI_NoText = some ⟨ocI_NoText, odI_NoText, .func (PySem.W.fnOf "__init__" "NoText.__init__" (defArgs si_NoText) (defBody si_NoText) (defScope si_NoText) .none kVI_NoText dcI_NoText pmI_NoText anI_NoText cdI_NoText ctI_NoText), slI_NoText⟩)
    (ci_NoText : PySem.W.codeIn K cdI_NoText "NoText.__init__" = true)
    (ki_NoText : PySem.W.keepIn K (.ref fI_NoText) = true)
    (ac_NoProgram : PySem.W.nsIn K mainGlobals "NoProgram" = some (some (.ref C_NoProgram)))
    (kc_NoProgram : PySem.W.keepIn K (.ref C_NoProgram) = true)
    (sc_NoProgram : PySem.W.subIn K (.ref C_NoProgram) (.type "BaseException") = some true)
    (tc_NoProgram : PySem.W.typeIn K (.ref C_NoProgram) = some (.type "type"))
    (eg_NoProgram : PySem.W.findIn K (.ref C_NoProgram) "__getattribute__" = some (some (.builtin "BaseException.__getattribute__")))
    (ek_NoProgram : PySem.W.findIn K (.ref C_NoProgram) "__getattr__" = some none)
    (ed_NoProgram : PySem.W.hasDictIn K C_NoProgram = true)
    (ea_NoProgram : PySem.W.findIn K (.ref C_NoProgram) "__class__" = some (some (.builtin "object.__class__")))
    (em_NoProgram : PySem.W.mroIn K C_NoProgram (.type "object") = some true)
    (xl_NoProgram : K.lookup C_NoProgram = some (excClassObj nm_NoProgram qn_NoProgram C_NoProgram N_NoProgram bs_NoProgram (.ref S_NoProgram :: veMro) true sn_NoProgram sub_NoProgram ab_NoProgram col_NoProgram dd_NoProgram m0_NoProgram m1_NoProgram m2_NoProgram m3_NoProgram m5_NoProgram "ValueError.__new__"))
    (sa_NoProgram : PySem.W.findIn K (.ref C_NoProgram) "__setattr__" = some (some (.builtin "object.__setattr__")))
    (ic_NoProgram : PySem.W.findIn K (.ref C_NoProgram) "__init__" = some (some (.ref fI_NoProgram)))
    (ti_NoProgram : PySem.W.typeIn K (.ref fI_NoProgram) = some (.type "function"))
    (nf_NoProgram_word : PySem.W.findIn K (.ref C_NoProgram) "word" = some none)
    (nf_NoProgram_row : PySem.W.findIn K (.ref C_NoProgram) "row" = some none)
    (li_NoProgram : K.lookup fI_NoProgram = some ⟨ocI_NoProgram, odI_NoProgram, .func (PySem.W.fnOf "__init__" "NoProgram.__init__" (defArgs si_NoProgram) (defBody si_NoProgram) (defScope si_NoProgram) .none kVI_NoProgram dcI_NoProgram pmI_NoProgram anI_NoProgram cdI_NoProgram ctI_NoProgram), slI_NoProgram⟩)
    (ci_NoProgram : PySem.W.codeIn K cdI_NoProgram "NoProgram.__init__" = true)
    (ki_NoProgram : PySem.W.keepIn K (.ref fI_NoProgram) = true)
    (ac_NoTerm : PySem.W.nsIn K mainGlobals "NoTerm" = some (some (.ref C_NoTerm)))
    (kc_NoTerm : PySem.W.keepIn K (.ref C_NoTerm) = true)
    (sc_NoTerm : PySem.W.subIn K (.ref C_NoTerm) (.type "BaseException") = some true)
    (tc_NoTerm : PySem.W.typeIn K (.ref C_NoTerm) = some (.type "type"))
    (eg_NoTerm : PySem.W.findIn K (.ref C_NoTerm) "__getattribute__" = some (some (.builtin "BaseException.__getattribute__")))
    (ek_NoTerm : PySem.W.findIn K (.ref C_NoTerm) "__getattr__" = some none)
    (ed_NoTerm : PySem.W.hasDictIn K C_NoTerm = true)
    (ea_NoTerm : PySem.W.findIn K (.ref C_NoTerm) "__class__" = some (some (.builtin "object.__class__")))
    (em_NoTerm : PySem.W.mroIn K C_NoTerm (.type "object") = some true)
    (xq_NoTerm : PySem.W.excIn K C_NoTerm veMro "ValueError.__new__" = true)
    (ac_NoValue : PySem.W.nsIn K mainGlobals "NoValue" = some (some (.ref C_NoValue)))
    (kc_NoValue : PySem.W.keepIn K (.ref C_NoValue) = true)
    (sc_NoValue : PySem.W.subIn K (.ref C_NoValue) (.type "BaseException") = some true)
    (tc_NoValue : PySem.W.typeIn K (.ref C_NoValue) = some (.type "type"))
    (eg_NoValue : PySem.W.findIn K (.ref C_NoValue) "__getattribute__" = some (some (.builtin "BaseException.__getattribute__")))
    (ek_NoValue : PySem.W.findIn K (.ref C_NoValue) "__getattr__" = some none)
    (ed_NoValue : PySem.W.hasDictIn K C_NoValue = true)
    (ea_NoValue : PySem.W.findIn K (.ref C_NoValue) "__class__" = some (some (.builtin "object.__class__")))
    (em_NoValue : PySem.W.mroIn K C_NoValue (.type "object") = some true)
    (xq_NoValue : PySem.W.excIn K C_NoValue veMro "ValueError.__new__" = true)
    (ac_NotFlat : PySem.W.nsIn K mainGlobals "NotFlat" = some (some (.ref C_NotFlat)))
    (kc_NotFlat : PySem.W.keepIn K (.ref C_NotFlat) = true)
    (sc_NotFlat : PySem.W.subIn K (.ref C_NotFlat) (.type "BaseException") = some true)
    (tc_NotFlat : PySem.W.typeIn K (.ref C_NotFlat) = some (.type "type"))
    (eg_NotFlat : PySem.W.findIn K (.ref C_NotFlat) "__getattribute__" = some (some (.builtin "BaseException.__getattribute__")))
    (ek_NotFlat : PySem.W.findIn K (.ref C_NotFlat) "__getattr__" = some none)
    (ed_NotFlat : PySem.W.hasDictIn K C_NotFlat = true)
    (ea_NotFlat : PySem.W.findIn K (.ref C_NotFlat) "__class__" = some (some (.builtin "object.__class__")))
    (em_NotFlat : PySem.W.mroIn K C_NotFlat (.type "object") = some true)
    (xl_NotFlat : K.lookup C_NotFlat = some (excClassObj nm_NotFlat qn_NotFlat C_NotFlat N_NotFlat bs_NotFlat (.ref S_NotFlat :: veMro) true sn_NotFlat sub_NotFlat ab_NotFlat col_NotFlat dd_NotFlat m0_NotFlat m1_NotFlat m2_NotFlat m3_NotFlat m5_NotFlat "ValueError.__new__"))
    (sa_NotFlat : PySem.W.findIn K (.ref C_NotFlat) "__setattr__" = some (some (.builtin "object.__setattr__")))
    (ic_NotFlat : PySem.W.findIn K (.ref C_NotFlat) "__init__" = some (some (.ref fI_NotFlat)))
    (ti_NotFlat : PySem.W.typeIn K (.ref fI_NotFlat) = some (.type "function"))
    (nf_NotFlat_row : PySem.W.findIn K (.ref C_NotFlat) "row" = some none)
    (li_NotFlat : K.lookup fI_NotFlat = some ⟨ocI_NotFlat, odI_NotFlat, .func (PySem.W.fnOf "__init__" "NotFlat.__init__" (defArgs si_NotFlat) (defBody si_NotFlat) (defScope si_NotFlat) .none kVI_NotFlat dcI_NotFlat pmI_NotFlat anI_NotFlat cdI_NotFlat ctI_NotFlat), slI_NotFlat⟩)
    (ci_NotFlat : PySem.W.codeIn K cdI_NotFlat "NotFlat.__init__" = true)
    (ki_NotFlat : PySem.W.keepIn K (.ref fI_NotFlat) = true)
    (ac_NoKind : PySem.W.nsIn K mainGlobals "NoKind" = some (some (.ref C_NoKind)))
    (kc_NoKind : PySem.W.keepIn K (.ref C_NoKind) = true)
    (sc_NoKind : PySem.W.subIn K (.ref C_NoKind) (.type "BaseException") = some true)
    (tc_NoKind : PySem.W.typeIn K (.ref C_NoKind) = some (.type "type"))
    (eg_NoKind : PySem.W.findIn K (.ref C_NoKind) "__getattribute__" = some (some (.builtin "BaseException.__getattribute__")))
    (ek_NoKind : PySem.W.findIn K (.ref C_NoKind) "__getattr__" = some none)
    (ed_NoKind : PySem.W.hasDictIn K C_NoKind = true)
    (ea_NoKind : PySem.W.findIn K (.ref C_NoKind) "__class__" = some (some (.builtin "object.__class__")))
    (em_NoKind : PySem.W.mroIn K C_NoKind (.type "object") = some true)
    (xq_NoKind : PySem.W.excIn K C_NoKind veMro "ValueError.__new__" = true)
    (ac_NoEdit : PySem.W.nsIn K mainGlobals "NoEdit" = some (some (.ref C_NoEdit)))
    (kc_NoEdit : PySem.W.keepIn K (.ref C_NoEdit) = true)
    (sc_NoEdit : PySem.W.subIn K (.ref C_NoEdit) (.type "BaseException") = some true)
    (tc_NoEdit : PySem.W.typeIn K (.ref C_NoEdit) = some (.type "type"))
    (eg_NoEdit : PySem.W.findIn K (.ref C_NoEdit) "__getattribute__" = some (some (.builtin "BaseException.__getattribute__")))
    (ek_NoEdit : PySem.W.findIn K (.ref C_NoEdit) "__getattr__" = some none)
    (ed_NoEdit : PySem.W.hasDictIn K C_NoEdit = true)
    (ea_NoEdit : PySem.W.findIn K (.ref C_NoEdit) "__class__" = some (some (.builtin "object.__class__")))
    (em_NoEdit : PySem.W.mroIn K C_NoEdit (.type "object") = some true)
    (xq_NoEdit : PySem.W.excIn K C_NoEdit veMro "ValueError.__new__" = true)
    (ac_SideError : PySem.W.nsIn K mainGlobals "SideError" = some (some (.ref C_SideError)))
    (sc_SideError : PySem.W.subIn K (.ref C_SideError) (.type "BaseException") = some true)
    (tc_SideError : PySem.W.typeIn K (.ref C_SideError) = some (.type "type"))
    (ed_SideError : PySem.W.hasDictIn K C_SideError = true)
    (xe_NoRow_NoRow : PySem.W.subIn K (.ref C_NoRow) (.ref C_NoRow) = some true)
    (xe_NoText_NoRow : PySem.W.subIn K (.ref C_NoText) (.ref C_NoRow) = some false)
    (xe_NoProgram_NoRow : PySem.W.subIn K (.ref C_NoProgram) (.ref C_NoRow) = some false)
    (xe_NoTerm_NoRow : PySem.W.subIn K (.ref C_NoTerm) (.ref C_NoRow) = some false)
    (xe_NoValue_NoRow : PySem.W.subIn K (.ref C_NoValue) (.ref C_NoRow) = some false)
    (xe_NotFlat_NoRow : PySem.W.subIn K (.ref C_NotFlat) (.ref C_NoRow) = some false)
    (xe_NoKind_NoRow : PySem.W.subIn K (.ref C_NoKind) (.ref C_NoRow) = some false)
    (xe_NoEdit_NoRow : PySem.W.subIn K (.ref C_NoEdit) (.ref C_NoRow) = some false)
    (xe_NoRow_NoEdit : PySem.W.subIn K (.ref C_NoRow) (.ref C_NoEdit) = some false)
    (xe_NoText_NoEdit : PySem.W.subIn K (.ref C_NoText) (.ref C_NoEdit) = some false)
    (xe_NoProgram_NoEdit : PySem.W.subIn K (.ref C_NoProgram) (.ref C_NoEdit) = some false)
    (xe_NoTerm_NoEdit : PySem.W.subIn K (.ref C_NoTerm) (.ref C_NoEdit) = some false)
    (xe_NoValue_NoEdit : PySem.W.subIn K (.ref C_NoValue) (.ref C_NoEdit) = some false)
    (xe_NotFlat_NoEdit : PySem.W.subIn K (.ref C_NotFlat) (.ref C_NoEdit) = some false)
    (xe_NoKind_NoEdit : PySem.W.subIn K (.ref C_NoKind) (.ref C_NoEdit) = some false)
    (xe_NoEdit_NoEdit : PySem.W.subIn K (.ref C_NoEdit) (.ref C_NoEdit) = some true)
    (xe_NoRow_NoKind : PySem.W.subIn K (.ref C_NoRow) (.ref C_NoKind) = some false)
    (xe_NoText_NoKind : PySem.W.subIn K (.ref C_NoText) (.ref C_NoKind) = some false)
    (xe_NoProgram_NoKind : PySem.W.subIn K (.ref C_NoProgram) (.ref C_NoKind) = some false)
    (xe_NoTerm_NoKind : PySem.W.subIn K (.ref C_NoTerm) (.ref C_NoKind) = some false)
    (xe_NoValue_NoKind : PySem.W.subIn K (.ref C_NoValue) (.ref C_NoKind) = some false)
    (xe_NotFlat_NoKind : PySem.W.subIn K (.ref C_NotFlat) (.ref C_NoKind) = some false)
    (xe_NoKind_NoKind : PySem.W.subIn K (.ref C_NoKind) (.ref C_NoKind) = some true)
    (xe_NoEdit_NoKind : PySem.W.subIn K (.ref C_NoEdit) (.ref C_NoKind) = some false)
    (xe_NoRow_NotFlat : PySem.W.subIn K (.ref C_NoRow) (.ref C_NotFlat) = some false)
    (xe_NoText_NotFlat : PySem.W.subIn K (.ref C_NoText) (.ref C_NotFlat) = some false)
    (xe_NoProgram_NotFlat : PySem.W.subIn K (.ref C_NoProgram) (.ref C_NotFlat) = some false)
    (xe_NoTerm_NotFlat : PySem.W.subIn K (.ref C_NoTerm) (.ref C_NotFlat) = some false)
    (xe_NoValue_NotFlat : PySem.W.subIn K (.ref C_NoValue) (.ref C_NotFlat) = some false)
    (xe_NotFlat_NotFlat : PySem.W.subIn K (.ref C_NotFlat) (.ref C_NotFlat) = some true)
    (xe_NoKind_NotFlat : PySem.W.subIn K (.ref C_NoKind) (.ref C_NotFlat) = some false)
    (xe_NoEdit_NotFlat : PySem.W.subIn K (.ref C_NoEdit) (.ref C_NotFlat) = some false)
    (xe_NoRow_NoValue : PySem.W.subIn K (.ref C_NoRow) (.ref C_NoValue) = some false)
    (xe_NoText_NoValue : PySem.W.subIn K (.ref C_NoText) (.ref C_NoValue) = some false)
    (xe_NoProgram_NoValue : PySem.W.subIn K (.ref C_NoProgram) (.ref C_NoValue) = some false)
    (xe_NoTerm_NoValue : PySem.W.subIn K (.ref C_NoTerm) (.ref C_NoValue) = some false)
    (xe_NoValue_NoValue : PySem.W.subIn K (.ref C_NoValue) (.ref C_NoValue) = some true)
    (xe_NotFlat_NoValue : PySem.W.subIn K (.ref C_NotFlat) (.ref C_NoValue) = some false)
    (xe_NoKind_NoValue : PySem.W.subIn K (.ref C_NoKind) (.ref C_NoValue) = some false)
    (xe_NoEdit_NoValue : PySem.W.subIn K (.ref C_NoEdit) (.ref C_NoValue) = some false)
    (xe_NoRow_NoTerm : PySem.W.subIn K (.ref C_NoRow) (.ref C_NoTerm) = some false)
    (xe_NoText_NoTerm : PySem.W.subIn K (.ref C_NoText) (.ref C_NoTerm) = some false)
    (xe_NoProgram_NoTerm : PySem.W.subIn K (.ref C_NoProgram) (.ref C_NoTerm) = some false)
    (xe_NoTerm_NoTerm : PySem.W.subIn K (.ref C_NoTerm) (.ref C_NoTerm) = some true)
    (xe_NoValue_NoTerm : PySem.W.subIn K (.ref C_NoValue) (.ref C_NoTerm) = some false)
    (xe_NotFlat_NoTerm : PySem.W.subIn K (.ref C_NotFlat) (.ref C_NoTerm) = some false)
    (xe_NoKind_NoTerm : PySem.W.subIn K (.ref C_NoKind) (.ref C_NoTerm) = some false)
    (xe_NoEdit_NoTerm : PySem.W.subIn K (.ref C_NoEdit) (.ref C_NoTerm) = some false)
    (xe_NoRow_NoProgram : PySem.W.subIn K (.ref C_NoRow) (.ref C_NoProgram) = some false)
    (xe_NoText_NoProgram : PySem.W.subIn K (.ref C_NoText) (.ref C_NoProgram) = some false)
    (xe_NoProgram_NoProgram : PySem.W.subIn K (.ref C_NoProgram) (.ref C_NoProgram) = some true)
    (xe_NoTerm_NoProgram : PySem.W.subIn K (.ref C_NoTerm) (.ref C_NoProgram) = some false)
    (xe_NoValue_NoProgram : PySem.W.subIn K (.ref C_NoValue) (.ref C_NoProgram) = some false)
    (xe_NotFlat_NoProgram : PySem.W.subIn K (.ref C_NotFlat) (.ref C_NoProgram) = some false)
    (xe_NoKind_NoProgram : PySem.W.subIn K (.ref C_NoKind) (.ref C_NoProgram) = some false)
    (xe_NoEdit_NoProgram : PySem.W.subIn K (.ref C_NoEdit) (.ref C_NoProgram) = some false)
    (xe_NoRow_NoText : PySem.W.subIn K (.ref C_NoRow) (.ref C_NoText) = some false)
    (xe_NoText_NoText : PySem.W.subIn K (.ref C_NoText) (.ref C_NoText) = some true)
    (xe_NoProgram_NoText : PySem.W.subIn K (.ref C_NoProgram) (.ref C_NoText) = some false)
    (xe_NoTerm_NoText : PySem.W.subIn K (.ref C_NoTerm) (.ref C_NoText) = some false)
    (xe_NoValue_NoText : PySem.W.subIn K (.ref C_NoValue) (.ref C_NoText) = some false)
    (xe_NotFlat_NoText : PySem.W.subIn K (.ref C_NotFlat) (.ref C_NoText) = some false)
    (xe_NoKind_NoText : PySem.W.subIn K (.ref C_NoKind) (.ref C_NoText) = some false)
    (xe_NoEdit_NoText : PySem.W.subIn K (.ref C_NoEdit) (.ref C_NoText) = some false)
    (xe_NoRow_SideError : PySem.W.subIn K (.ref C_NoRow) (.ref C_SideError) = some true)
    (xe_NoText_SideError : PySem.W.subIn K (.ref C_NoText) (.ref C_SideError) = some true)
    (xe_NoProgram_SideError : PySem.W.subIn K (.ref C_NoProgram) (.ref C_SideError) = some true)
    (xe_NoTerm_SideError : PySem.W.subIn K (.ref C_NoTerm) (.ref C_SideError) = some true)
    (xe_NoValue_SideError : PySem.W.subIn K (.ref C_NoValue) (.ref C_SideError) = some true)
    (xe_NotFlat_SideError : PySem.W.subIn K (.ref C_NotFlat) (.ref C_SideError) = some true)
    (xe_NoKind_SideError : PySem.W.subIn K (.ref C_NoKind) (.ref C_SideError) = some true)
    (xe_NoEdit_SideError : PySem.W.subIn K (.ref C_NoEdit) (.ref C_SideError) = some true)
    (xk_NoRow_NoText : PySem.W.kitOne K (.ref C_NoRow) (.ref C_NoText) = some false)
    (xk_NoText_NoText : PySem.W.kitOne K (.ref C_NoText) (.ref C_NoText) = some true)
    (xk_NoProgram_NoText : PySem.W.kitOne K (.ref C_NoProgram) (.ref C_NoText) = some false)
    (xk_NoTerm_NoText : PySem.W.kitOne K (.ref C_NoTerm) (.ref C_NoText) = some false)
    (xk_NoValue_NoText : PySem.W.kitOne K (.ref C_NoValue) (.ref C_NoText) = some false)
    (xk_NotFlat_NoText : PySem.W.kitOne K (.ref C_NotFlat) (.ref C_NoText) = some false)
    (xk_NoKind_NoText : PySem.W.kitOne K (.ref C_NoKind) (.ref C_NoText) = some false)
    (xk_NoEdit_NoText : PySem.W.kitOne K (.ref C_NoEdit) (.ref C_NoText) = some false)
    (xk_NoRow_NoProgram : PySem.W.kitOne K (.ref C_NoRow) (.ref C_NoProgram) = some false)
    (xk_NoText_NoProgram : PySem.W.kitOne K (.ref C_NoText) (.ref C_NoProgram) = some false)
    (xk_NoProgram_NoProgram : PySem.W.kitOne K (.ref C_NoProgram) (.ref C_NoProgram) = some true)
    (xk_NoTerm_NoProgram : PySem.W.kitOne K (.ref C_NoTerm) (.ref C_NoProgram) = some false)
    (xk_NoValue_NoProgram : PySem.W.kitOne K (.ref C_NoValue) (.ref C_NoProgram) = some false)
    (xk_NotFlat_NoProgram : PySem.W.kitOne K (.ref C_NotFlat) (.ref C_NoProgram) = some false)
    (xk_NoKind_NoProgram : PySem.W.kitOne K (.ref C_NoKind) (.ref C_NoProgram) = some false)
    (xk_NoEdit_NoProgram : PySem.W.kitOne K (.ref C_NoEdit) (.ref C_NoProgram) = some false)
    (xk_NoRow_NoTerm : PySem.W.kitOne K (.ref C_NoRow) (.ref C_NoTerm) = some false)
    (xk_NoText_NoTerm : PySem.W.kitOne K (.ref C_NoText) (.ref C_NoTerm) = some false)
    (xk_NoProgram_NoTerm : PySem.W.kitOne K (.ref C_NoProgram) (.ref C_NoTerm) = some false)
    (xk_NoTerm_NoTerm : PySem.W.kitOne K (.ref C_NoTerm) (.ref C_NoTerm) = some true)
    (xk_NoValue_NoTerm : PySem.W.kitOne K (.ref C_NoValue) (.ref C_NoTerm) = some false)
    (xk_NotFlat_NoTerm : PySem.W.kitOne K (.ref C_NotFlat) (.ref C_NoTerm) = some false)
    (xk_NoKind_NoTerm : PySem.W.kitOne K (.ref C_NoKind) (.ref C_NoTerm) = some false)
    (xk_NoEdit_NoTerm : PySem.W.kitOne K (.ref C_NoEdit) (.ref C_NoTerm) = some false)
    (xk_NoRow_NoValue : PySem.W.kitOne K (.ref C_NoRow) (.ref C_NoValue) = some false)
    (xk_NoText_NoValue : PySem.W.kitOne K (.ref C_NoText) (.ref C_NoValue) = some false)
    (xk_NoProgram_NoValue : PySem.W.kitOne K (.ref C_NoProgram) (.ref C_NoValue) = some false)
    (xk_NoTerm_NoValue : PySem.W.kitOne K (.ref C_NoTerm) (.ref C_NoValue) = some false)
    (xk_NoValue_NoValue : PySem.W.kitOne K (.ref C_NoValue) (.ref C_NoValue) = some true)
    (xk_NotFlat_NoValue : PySem.W.kitOne K (.ref C_NotFlat) (.ref C_NoValue) = some false)
    (xk_NoKind_NoValue : PySem.W.kitOne K (.ref C_NoKind) (.ref C_NoValue) = some false)
    (xk_NoEdit_NoValue : PySem.W.kitOne K (.ref C_NoEdit) (.ref C_NoValue) = some false)
    (xk_NoRow_NotFlat : PySem.W.kitOne K (.ref C_NoRow) (.ref C_NotFlat) = some false)
    (xk_NoText_NotFlat : PySem.W.kitOne K (.ref C_NoText) (.ref C_NotFlat) = some false)
    (xk_NoProgram_NotFlat : PySem.W.kitOne K (.ref C_NoProgram) (.ref C_NotFlat) = some false)
    (xk_NoTerm_NotFlat : PySem.W.kitOne K (.ref C_NoTerm) (.ref C_NotFlat) = some false)
    (xk_NoValue_NotFlat : PySem.W.kitOne K (.ref C_NoValue) (.ref C_NotFlat) = some false)
    (xk_NotFlat_NotFlat : PySem.W.kitOne K (.ref C_NotFlat) (.ref C_NotFlat) = some true)
    (xk_NoKind_NotFlat : PySem.W.kitOne K (.ref C_NoKind) (.ref C_NotFlat) = some false)
    (xk_NoEdit_NotFlat : PySem.W.kitOne K (.ref C_NoEdit) (.ref C_NotFlat) = some false)
    (xk_NoRow_NoKind : PySem.W.kitOne K (.ref C_NoRow) (.ref C_NoKind) = some false)
    (xk_NoText_NoKind : PySem.W.kitOne K (.ref C_NoText) (.ref C_NoKind) = some false)
    (xk_NoProgram_NoKind : PySem.W.kitOne K (.ref C_NoProgram) (.ref C_NoKind) = some false)
    (xk_NoTerm_NoKind : PySem.W.kitOne K (.ref C_NoTerm) (.ref C_NoKind) = some false)
    (xk_NoValue_NoKind : PySem.W.kitOne K (.ref C_NoValue) (.ref C_NoKind) = some false)
    (xk_NotFlat_NoKind : PySem.W.kitOne K (.ref C_NotFlat) (.ref C_NoKind) = some false)
    (xk_NoKind_NoKind : PySem.W.kitOne K (.ref C_NoKind) (.ref C_NoKind) = some true)
    (xk_NoEdit_NoKind : PySem.W.kitOne K (.ref C_NoEdit) (.ref C_NoKind) = some false)
    (xk_NoRow_NoEdit : PySem.W.kitOne K (.ref C_NoRow) (.ref C_NoEdit) = some false)
    (xk_NoText_NoEdit : PySem.W.kitOne K (.ref C_NoText) (.ref C_NoEdit) = some false)
    (xk_NoProgram_NoEdit : PySem.W.kitOne K (.ref C_NoProgram) (.ref C_NoEdit) = some false)
    (xk_NoTerm_NoEdit : PySem.W.kitOne K (.ref C_NoTerm) (.ref C_NoEdit) = some false)
    (xk_NoValue_NoEdit : PySem.W.kitOne K (.ref C_NoValue) (.ref C_NoEdit) = some false)
    (xk_NotFlat_NoEdit : PySem.W.kitOne K (.ref C_NotFlat) (.ref C_NoEdit) = some false)
    (xk_NoKind_NoEdit : PySem.W.kitOne K (.ref C_NoKind) (.ref C_NoEdit) = some false)
    (xk_NoEdit_NoEdit : PySem.W.kitOne K (.ref C_NoEdit) (.ref C_NoEdit) = some true)
    (xk_NoRow_NoRow : PySem.W.kitOne K (.ref C_NoRow) (.ref C_NoRow) = some true)
    (xk_NoText_NoRow : PySem.W.kitOne K (.ref C_NoText) (.ref C_NoRow) = some false)
    (xk_NoProgram_NoRow : PySem.W.kitOne K (.ref C_NoProgram) (.ref C_NoRow) = some false)
    (xk_NoTerm_NoRow : PySem.W.kitOne K (.ref C_NoTerm) (.ref C_NoRow) = some false)
    (xk_NoValue_NoRow : PySem.W.kitOne K (.ref C_NoValue) (.ref C_NoRow) = some false)
    (xk_NotFlat_NoRow : PySem.W.kitOne K (.ref C_NotFlat) (.ref C_NoRow) = some false)
    (xk_NoKind_NoRow : PySem.W.kitOne K (.ref C_NoKind) (.ref C_NoRow) = some false)
    (xk_NoEdit_NoRow : PySem.W.kitOne K (.ref C_NoEdit) (.ref C_NoRow) = some false)
    (xk_NoRow_ValueError : PySem.W.kitOne K (.ref C_NoRow) (.type "ValueError") = some true)
    (xk_NoText_ValueError : PySem.W.kitOne K (.ref C_NoText) (.type "ValueError") = some true)
    (xk_NoProgram_ValueError : PySem.W.kitOne K (.ref C_NoProgram) (.type "ValueError") = some true)
    (xk_NoTerm_ValueError : PySem.W.kitOne K (.ref C_NoTerm) (.type "ValueError") = some true)
    (xk_NoValue_ValueError : PySem.W.kitOne K (.ref C_NoValue) (.type "ValueError") = some true)
    (xk_NotFlat_ValueError : PySem.W.kitOne K (.ref C_NotFlat) (.type "ValueError") = some true)
    (xk_NoKind_ValueError : PySem.W.kitOne K (.ref C_NoKind) (.type "ValueError") = some true)
    (xk_NoEdit_ValueError : PySem.W.kitOne K (.ref C_NoEdit) (.type "ValueError") = some true)
    (z_ValueError : PySem.W.nsIn K mainGlobals "ValueError" = some none)
    (z_all : PySem.W.nsIn K mainGlobals "all" = some none)
    (z_isinstance : PySem.W.nsIn K mainGlobals "isinstance" = some none)
    (z_len : PySem.W.nsIn K mainGlobals "len" = some none)
    (z_list : PySem.W.nsIn K mainGlobals "list" = some none)
    (z_max : PySem.W.nsIn K mainGlobals "max" = some none)
    (z_range : PySem.W.nsIn K mainGlobals "range" = some none)
    (z_reversed : PySem.W.nsIn K mainGlobals "reversed" = some none) :
    ∃ fd : FuncData, (∀ (s : Shared) (v : Value), BindsTo s fd ⟨[v], []⟩ [("_law_script", v)]) ∧ ∀ base : Heap, K.In base → base.Ns mainGlobals mg → FnOk l.prog w K mg base (L2N.CX l.prog w) 6 fa fd ["_law_script"] (lawSp K g_law) := by
  have e := hfa.symm.trans (PySem.W.mg_of X G a7)
  cases e
  let T : Tx K mg w := {
    d__law_deal := ⟨_, _, fun_mk (st := st__law_deal) l0 c0 k0, (fun_mk (st := st__law_deal) l0 c0 k0).binds (ps := ["_law_script", "_law_base"]) fun _ _ _ _ _ _ us hl => match us, hl with | [_, _], _ => rfl, PySem.W.mg_of X G a0⟩,
    d__law_draw := ⟨_, _, fun_mk (st := st__law_draw) l1 c1 k1, (fun_mk (st := st__law_draw) l1 c1 k1).binds (ps := ["_law_deal_here", "_law_many"]) fun _ _ _ _ _ _ us hl => match us, hl with | [_, _], _ => rfl, PySem.W.mg_of X G a1⟩,
    d__law_letters := ⟨_, _, fun_mk (st := st__law_letters) l2 c2 k2, (fun_mk (st := st__law_letters) l2 c2 k2).binds (ps := ["_law_deal_here"]) fun _ _ _ _ _ _ us hl => match us, hl with | [_], _ => rfl, PySem.W.mg_of X G a2⟩,
    d__law_refuse := ⟨_, _, fun_mk (st := st__law_refuse) l3 c3 k3, (fun_mk (st := st__law_refuse) l3 c3 k3).binds (ps := ["_law_k", "_law_row", "_law_word"]) fun _ _ _ _ _ _ us hl => match us, hl with | [_, _, _], _ => rfl, PySem.W.mg_of X G a3⟩,
    d__law_caught := ⟨_, _, fun_mk (st := st__law_caught) l4 c4 k4, (fun_mk (st := st__law_caught) l4 c4 k4).binds (ps := ["_law_k", "_law_row", "_law_word"]) fun _ _ _ _ _ _ us hl => match us, hl with | [_, _, _], _ => rfl, PySem.W.mg_of X G a4⟩,
    d__law_kinds := ⟨_, _, fun_mk (st := st__law_kinds) l5 c5 k5, (fun_mk (st := st__law_kinds) l5 c5 k5).binds (ps := ["_law_k", "_law_row", "_law_word"]) fun _ _ _ _ _ _ us hl => match us, hl with | [_, _, _], _ => rfl, PySem.W.mg_of X G a5⟩,
    d__law_right := ⟨_, _, fun_mk (st := st__law_right) l6 c6 k6, (fun_mk (st := st__law_right) l6 c6 k6).binds (ps := ["_law_k", "_law_row", "_law_word"]) fun _ _ _ _ _ _ us hl => match us, hl with | [_, _, _], _ => rfl, PySem.W.mg_of X G a6⟩,
    d_law := ⟨_, _, fun_mk (st := st_law) l7 c7 k7, (fun_mk (st := st_law) l7 c7 k7).binds (ps := ["_law_script"]) fun _ _ _ _ _ _ us hl => match us, hl with | [_], _ => rfl, PySem.W.mg_of X G a7⟩,
    x_NoRow := ⟨C_NoRow, PySem.W.mg_of X G ac_NoRow, xq_NoRow, kc_NoRow, sc_NoRow, tc_NoRow⟩,
    x_NoText := ⟨C_NoText, fI_NoText, _, PySem.W.mg_of X G ac_NoText, ⟨⟨_, _, _, _, _, _, _, _, _, _, _, _, _, _, _, xl_NoText, rfl⟩, sa_NoText, sc_NoText, tc_NoText, kc_NoText⟩, ic_NoText, ti_NoText, nf_NoText_row, (fun_mk (st := si_NoText) li_NoText ci_NoText ki_NoText).binds (ps := ["self", "row"]) fun _ _ _ _ _ _ us hl => match us, hl with | [_, _], _ => rfl, ok_in1 (fun_mk (st := si_NoText) li_NoText ci_NoText ki_NoText) sci_NoText rfl rfl rfl⟩,
    xf_NoText := ⟨eg_NoText, ek_NoText, sc_NoText, ed_NoText⟩,
    x_NoProgram := ⟨C_NoProgram, fI_NoProgram, _, PySem.W.mg_of X G ac_NoProgram, ⟨⟨_, _, _, _, _, _, _, _, _, _, _, _, _, _, _, xl_NoProgram, rfl⟩, sa_NoProgram, sc_NoProgram, tc_NoProgram, kc_NoProgram⟩, ic_NoProgram, ti_NoProgram, nf_NoProgram_word, nf_NoProgram_row, (fun_mk (st := si_NoProgram) li_NoProgram ci_NoProgram ki_NoProgram).binds (ps := ["self", "word", "row"]) fun _ _ _ _ _ _ us hl => match us, hl with | [_, _, _], _ => rfl, ok_in2 (fun_mk (st := si_NoProgram) li_NoProgram ci_NoProgram ki_NoProgram) sci_NoProgram rfl rfl rfl rfl⟩,
    xf_NoProgram := ⟨eg_NoProgram, ek_NoProgram, sc_NoProgram, ed_NoProgram⟩,
    x_NoTerm := ⟨C_NoTerm, PySem.W.mg_of X G ac_NoTerm, xq_NoTerm, kc_NoTerm, sc_NoTerm, tc_NoTerm⟩,
    x_NoValue := ⟨C_NoValue, PySem.W.mg_of X G ac_NoValue, xq_NoValue, kc_NoValue, sc_NoValue, tc_NoValue⟩,
    x_NotFlat := ⟨C_NotFlat, fI_NotFlat, _, PySem.W.mg_of X G ac_NotFlat, ⟨⟨_, _, _, _, _, _, _, _, _, _, _, _, _, _, _, xl_NotFlat, rfl⟩, sa_NotFlat, sc_NotFlat, tc_NotFlat, kc_NotFlat⟩, ic_NotFlat, ti_NotFlat, nf_NotFlat_row, (fun_mk (st := si_NotFlat) li_NotFlat ci_NotFlat ki_NotFlat).binds (ps := ["self", "row"]) fun _ _ _ _ _ _ us hl => match us, hl with | [_, _], _ => rfl, ok_in1 (fun_mk (st := si_NotFlat) li_NotFlat ci_NotFlat ki_NotFlat) sci_NotFlat rfl rfl rfl⟩,
    xf_NotFlat := ⟨eg_NotFlat, ek_NotFlat, sc_NotFlat, ed_NotFlat⟩,
    x_NoKind := ⟨C_NoKind, PySem.W.mg_of X G ac_NoKind, xq_NoKind, kc_NoKind, sc_NoKind, tc_NoKind⟩,
    x_NoEdit := ⟨C_NoEdit, PySem.W.mg_of X G ac_NoEdit, xq_NoEdit, kc_NoEdit, sc_NoEdit, tc_NoEdit⟩,
    x_SideError := ⟨C_SideError, PySem.W.mg_of X G ac_SideError⟩,
    rs := fun r hr => by
      simp only [RS, List.mem_cons, List.not_mem_nil, or_false] at hr
      rcases hr with rfl | rfl | rfl | rfl | rfl | rfl | rfl | rfl
      · exact ⟨C_NoRow, PySem.W.mg_of X G ac_NoRow, ⟨eg_NoRow, ek_NoRow, sc_NoRow, ed_NoRow, ea_NoRow, en, et, em_NoRow⟩⟩
      · exact ⟨C_NoText, PySem.W.mg_of X G ac_NoText, ⟨eg_NoText, ek_NoText, sc_NoText, ed_NoText, ea_NoText, en, et, em_NoText⟩⟩
      · exact ⟨C_NoProgram, PySem.W.mg_of X G ac_NoProgram, ⟨eg_NoProgram, ek_NoProgram, sc_NoProgram, ed_NoProgram, ea_NoProgram, en, et, em_NoProgram⟩⟩
      · exact ⟨C_NoTerm, PySem.W.mg_of X G ac_NoTerm, ⟨eg_NoTerm, ek_NoTerm, sc_NoTerm, ed_NoTerm, ea_NoTerm, en, et, em_NoTerm⟩⟩
      · exact ⟨C_NoValue, PySem.W.mg_of X G ac_NoValue, ⟨eg_NoValue, ek_NoValue, sc_NoValue, ed_NoValue, ea_NoValue, en, et, em_NoValue⟩⟩
      · exact ⟨C_NotFlat, PySem.W.mg_of X G ac_NotFlat, ⟨eg_NotFlat, ek_NotFlat, sc_NotFlat, ed_NotFlat, ea_NotFlat, en, et, em_NotFlat⟩⟩
      · exact ⟨C_NoKind, PySem.W.mg_of X G ac_NoKind, ⟨eg_NoKind, ek_NoKind, sc_NoKind, ed_NoKind, ea_NoKind, en, et, em_NoKind⟩⟩
      · exact ⟨C_NoEdit, PySem.W.mg_of X G ac_NoEdit, ⟨eg_NoEdit, ek_NoEdit, sc_NoEdit, ed_NoEdit, ea_NoEdit, en, et, em_NoEdit⟩⟩,
    rk := fun r hr C hm => by
      simp only [RS, List.mem_cons, List.not_mem_nil, or_false] at hr
      rcases hr with rfl | rfl | rfl | rfl | rfl | rfl | rfl | rfl
      · rw [PySem.W.mg_of X G ac_NoRow] at hm; cases hm; exact ac_NoRow
      · rw [PySem.W.mg_of X G ac_NoText] at hm; cases hm; exact ac_NoText
      · rw [PySem.W.mg_of X G ac_NoProgram] at hm; cases hm; exact ac_NoProgram
      · rw [PySem.W.mg_of X G ac_NoTerm] at hm; cases hm; exact ac_NoTerm
      · rw [PySem.W.mg_of X G ac_NoValue] at hm; cases hm; exact ac_NoValue
      · rw [PySem.W.mg_of X G ac_NotFlat] at hm; cases hm; exact ac_NotFlat
      · rw [PySem.W.mg_of X G ac_NoKind] at hm; cases hm; exact ac_NoKind
      · rw [PySem.W.mg_of X G ac_NoEdit] at hm; cases hm; exact ac_NoEdit,
    hx_NoRow := fun r hr cls hm => by
      simp only [RS, List.mem_cons, List.not_mem_nil, or_false] at hr
      rcases hr with rfl | rfl | rfl | rfl | rfl | rfl | rfl | rfl
      · rw [PySem.W.mg_of X G ac_NoRow] at hm; cases hm; rw [show subX "NoRow" "NoRow" = true from by decide +kernel]; exact PySem.W.exm_ref sc_NoRow ed_NoRow tc_NoRow xe_NoRow_NoRow
      · rw [PySem.W.mg_of X G ac_NoText] at hm; cases hm; rw [show subX "NoText" "NoRow" = false from by decide +kernel]; exact PySem.W.exm_ref sc_NoRow ed_NoRow tc_NoRow xe_NoText_NoRow
      · rw [PySem.W.mg_of X G ac_NoProgram] at hm; cases hm; rw [show subX "NoProgram" "NoRow" = false from by decide +kernel]; exact PySem.W.exm_ref sc_NoRow ed_NoRow tc_NoRow xe_NoProgram_NoRow
      · rw [PySem.W.mg_of X G ac_NoTerm] at hm; cases hm; rw [show subX "NoTerm" "NoRow" = false from by decide +kernel]; exact PySem.W.exm_ref sc_NoRow ed_NoRow tc_NoRow xe_NoTerm_NoRow
      · rw [PySem.W.mg_of X G ac_NoValue] at hm; cases hm; rw [show subX "NoValue" "NoRow" = false from by decide +kernel]; exact PySem.W.exm_ref sc_NoRow ed_NoRow tc_NoRow xe_NoValue_NoRow
      · rw [PySem.W.mg_of X G ac_NotFlat] at hm; cases hm; rw [show subX "NotFlat" "NoRow" = false from by decide +kernel]; exact PySem.W.exm_ref sc_NoRow ed_NoRow tc_NoRow xe_NotFlat_NoRow
      · rw [PySem.W.mg_of X G ac_NoKind] at hm; cases hm; rw [show subX "NoKind" "NoRow" = false from by decide +kernel]; exact PySem.W.exm_ref sc_NoRow ed_NoRow tc_NoRow xe_NoKind_NoRow
      · rw [PySem.W.mg_of X G ac_NoEdit] at hm; cases hm; rw [show subX "NoEdit" "NoRow" = false from by decide +kernel]; exact PySem.W.exm_ref sc_NoRow ed_NoRow tc_NoRow xe_NoEdit_NoRow,
    hx_NoEdit := fun r hr cls hm => by
      simp only [RS, List.mem_cons, List.not_mem_nil, or_false] at hr
      rcases hr with rfl | rfl | rfl | rfl | rfl | rfl | rfl | rfl
      · rw [PySem.W.mg_of X G ac_NoRow] at hm; cases hm; rw [show subX "NoRow" "NoEdit" = false from by decide +kernel]; exact PySem.W.exm_ref sc_NoEdit ed_NoEdit tc_NoEdit xe_NoRow_NoEdit
      · rw [PySem.W.mg_of X G ac_NoText] at hm; cases hm; rw [show subX "NoText" "NoEdit" = false from by decide +kernel]; exact PySem.W.exm_ref sc_NoEdit ed_NoEdit tc_NoEdit xe_NoText_NoEdit
      · rw [PySem.W.mg_of X G ac_NoProgram] at hm; cases hm; rw [show subX "NoProgram" "NoEdit" = false from by decide +kernel]; exact PySem.W.exm_ref sc_NoEdit ed_NoEdit tc_NoEdit xe_NoProgram_NoEdit
      · rw [PySem.W.mg_of X G ac_NoTerm] at hm; cases hm; rw [show subX "NoTerm" "NoEdit" = false from by decide +kernel]; exact PySem.W.exm_ref sc_NoEdit ed_NoEdit tc_NoEdit xe_NoTerm_NoEdit
      · rw [PySem.W.mg_of X G ac_NoValue] at hm; cases hm; rw [show subX "NoValue" "NoEdit" = false from by decide +kernel]; exact PySem.W.exm_ref sc_NoEdit ed_NoEdit tc_NoEdit xe_NoValue_NoEdit
      · rw [PySem.W.mg_of X G ac_NotFlat] at hm; cases hm; rw [show subX "NotFlat" "NoEdit" = false from by decide +kernel]; exact PySem.W.exm_ref sc_NoEdit ed_NoEdit tc_NoEdit xe_NotFlat_NoEdit
      · rw [PySem.W.mg_of X G ac_NoKind] at hm; cases hm; rw [show subX "NoKind" "NoEdit" = false from by decide +kernel]; exact PySem.W.exm_ref sc_NoEdit ed_NoEdit tc_NoEdit xe_NoKind_NoEdit
      · rw [PySem.W.mg_of X G ac_NoEdit] at hm; cases hm; rw [show subX "NoEdit" "NoEdit" = true from by decide +kernel]; exact PySem.W.exm_ref sc_NoEdit ed_NoEdit tc_NoEdit xe_NoEdit_NoEdit,
    hx_NoKind := fun r hr cls hm => by
      simp only [RS, List.mem_cons, List.not_mem_nil, or_false] at hr
      rcases hr with rfl | rfl | rfl | rfl | rfl | rfl | rfl | rfl
      · rw [PySem.W.mg_of X G ac_NoRow] at hm; cases hm; rw [show subX "NoRow" "NoKind" = false from by decide +kernel]; exact PySem.W.exm_ref sc_NoKind ed_NoKind tc_NoKind xe_NoRow_NoKind
      · rw [PySem.W.mg_of X G ac_NoText] at hm; cases hm; rw [show subX "NoText" "NoKind" = false from by decide +kernel]; exact PySem.W.exm_ref sc_NoKind ed_NoKind tc_NoKind xe_NoText_NoKind
      · rw [PySem.W.mg_of X G ac_NoProgram] at hm; cases hm; rw [show subX "NoProgram" "NoKind" = false from by decide +kernel]; exact PySem.W.exm_ref sc_NoKind ed_NoKind tc_NoKind xe_NoProgram_NoKind
      · rw [PySem.W.mg_of X G ac_NoTerm] at hm; cases hm; rw [show subX "NoTerm" "NoKind" = false from by decide +kernel]; exact PySem.W.exm_ref sc_NoKind ed_NoKind tc_NoKind xe_NoTerm_NoKind
      · rw [PySem.W.mg_of X G ac_NoValue] at hm; cases hm; rw [show subX "NoValue" "NoKind" = false from by decide +kernel]; exact PySem.W.exm_ref sc_NoKind ed_NoKind tc_NoKind xe_NoValue_NoKind
      · rw [PySem.W.mg_of X G ac_NotFlat] at hm; cases hm; rw [show subX "NotFlat" "NoKind" = false from by decide +kernel]; exact PySem.W.exm_ref sc_NoKind ed_NoKind tc_NoKind xe_NotFlat_NoKind
      · rw [PySem.W.mg_of X G ac_NoKind] at hm; cases hm; rw [show subX "NoKind" "NoKind" = true from by decide +kernel]; exact PySem.W.exm_ref sc_NoKind ed_NoKind tc_NoKind xe_NoKind_NoKind
      · rw [PySem.W.mg_of X G ac_NoEdit] at hm; cases hm; rw [show subX "NoEdit" "NoKind" = false from by decide +kernel]; exact PySem.W.exm_ref sc_NoKind ed_NoKind tc_NoKind xe_NoEdit_NoKind,
    hx_NotFlat := fun r hr cls hm => by
      simp only [RS, List.mem_cons, List.not_mem_nil, or_false] at hr
      rcases hr with rfl | rfl | rfl | rfl | rfl | rfl | rfl | rfl
      · rw [PySem.W.mg_of X G ac_NoRow] at hm; cases hm; rw [show subX "NoRow" "NotFlat" = false from by decide +kernel]; exact PySem.W.exm_ref sc_NotFlat ed_NotFlat tc_NotFlat xe_NoRow_NotFlat
      · rw [PySem.W.mg_of X G ac_NoText] at hm; cases hm; rw [show subX "NoText" "NotFlat" = false from by decide +kernel]; exact PySem.W.exm_ref sc_NotFlat ed_NotFlat tc_NotFlat xe_NoText_NotFlat
      · rw [PySem.W.mg_of X G ac_NoProgram] at hm; cases hm; rw [show subX "NoProgram" "NotFlat" = false from by decide +kernel]; exact PySem.W.exm_ref sc_NotFlat ed_NotFlat tc_NotFlat xe_NoProgram_NotFlat
      · rw [PySem.W.mg_of X G ac_NoTerm] at hm; cases hm; rw [show subX "NoTerm" "NotFlat" = false from by decide +kernel]; exact PySem.W.exm_ref sc_NotFlat ed_NotFlat tc_NotFlat xe_NoTerm_NotFlat
      · rw [PySem.W.mg_of X G ac_NoValue] at hm; cases hm; rw [show subX "NoValue" "NotFlat" = false from by decide +kernel]; exact PySem.W.exm_ref sc_NotFlat ed_NotFlat tc_NotFlat xe_NoValue_NotFlat
      · rw [PySem.W.mg_of X G ac_NotFlat] at hm; cases hm; rw [show subX "NotFlat" "NotFlat" = true from by decide +kernel]; exact PySem.W.exm_ref sc_NotFlat ed_NotFlat tc_NotFlat xe_NotFlat_NotFlat
      · rw [PySem.W.mg_of X G ac_NoKind] at hm; cases hm; rw [show subX "NoKind" "NotFlat" = false from by decide +kernel]; exact PySem.W.exm_ref sc_NotFlat ed_NotFlat tc_NotFlat xe_NoKind_NotFlat
      · rw [PySem.W.mg_of X G ac_NoEdit] at hm; cases hm; rw [show subX "NoEdit" "NotFlat" = false from by decide +kernel]; exact PySem.W.exm_ref sc_NotFlat ed_NotFlat tc_NotFlat xe_NoEdit_NotFlat,
    hx_NoValue := fun r hr cls hm => by
      simp only [RS, List.mem_cons, List.not_mem_nil, or_false] at hr
      rcases hr with rfl | rfl | rfl | rfl | rfl | rfl | rfl | rfl
      · rw [PySem.W.mg_of X G ac_NoRow] at hm; cases hm; rw [show subX "NoRow" "NoValue" = false from by decide +kernel]; exact PySem.W.exm_ref sc_NoValue ed_NoValue tc_NoValue xe_NoRow_NoValue
      · rw [PySem.W.mg_of X G ac_NoText] at hm; cases hm; rw [show subX "NoText" "NoValue" = false from by decide +kernel]; exact PySem.W.exm_ref sc_NoValue ed_NoValue tc_NoValue xe_NoText_NoValue
      · rw [PySem.W.mg_of X G ac_NoProgram] at hm; cases hm; rw [show subX "NoProgram" "NoValue" = false from by decide +kernel]; exact PySem.W.exm_ref sc_NoValue ed_NoValue tc_NoValue xe_NoProgram_NoValue
      · rw [PySem.W.mg_of X G ac_NoTerm] at hm; cases hm; rw [show subX "NoTerm" "NoValue" = false from by decide +kernel]; exact PySem.W.exm_ref sc_NoValue ed_NoValue tc_NoValue xe_NoTerm_NoValue
      · rw [PySem.W.mg_of X G ac_NoValue] at hm; cases hm; rw [show subX "NoValue" "NoValue" = true from by decide +kernel]; exact PySem.W.exm_ref sc_NoValue ed_NoValue tc_NoValue xe_NoValue_NoValue
      · rw [PySem.W.mg_of X G ac_NotFlat] at hm; cases hm; rw [show subX "NotFlat" "NoValue" = false from by decide +kernel]; exact PySem.W.exm_ref sc_NoValue ed_NoValue tc_NoValue xe_NotFlat_NoValue
      · rw [PySem.W.mg_of X G ac_NoKind] at hm; cases hm; rw [show subX "NoKind" "NoValue" = false from by decide +kernel]; exact PySem.W.exm_ref sc_NoValue ed_NoValue tc_NoValue xe_NoKind_NoValue
      · rw [PySem.W.mg_of X G ac_NoEdit] at hm; cases hm; rw [show subX "NoEdit" "NoValue" = false from by decide +kernel]; exact PySem.W.exm_ref sc_NoValue ed_NoValue tc_NoValue xe_NoEdit_NoValue,
    hx_NoTerm := fun r hr cls hm => by
      simp only [RS, List.mem_cons, List.not_mem_nil, or_false] at hr
      rcases hr with rfl | rfl | rfl | rfl | rfl | rfl | rfl | rfl
      · rw [PySem.W.mg_of X G ac_NoRow] at hm; cases hm; rw [show subX "NoRow" "NoTerm" = false from by decide +kernel]; exact PySem.W.exm_ref sc_NoTerm ed_NoTerm tc_NoTerm xe_NoRow_NoTerm
      · rw [PySem.W.mg_of X G ac_NoText] at hm; cases hm; rw [show subX "NoText" "NoTerm" = false from by decide +kernel]; exact PySem.W.exm_ref sc_NoTerm ed_NoTerm tc_NoTerm xe_NoText_NoTerm
      · rw [PySem.W.mg_of X G ac_NoProgram] at hm; cases hm; rw [show subX "NoProgram" "NoTerm" = false from by decide +kernel]; exact PySem.W.exm_ref sc_NoTerm ed_NoTerm tc_NoTerm xe_NoProgram_NoTerm
      · rw [PySem.W.mg_of X G ac_NoTerm] at hm; cases hm; rw [show subX "NoTerm" "NoTerm" = true from by decide +kernel]; exact PySem.W.exm_ref sc_NoTerm ed_NoTerm tc_NoTerm xe_NoTerm_NoTerm
      · rw [PySem.W.mg_of X G ac_NoValue] at hm; cases hm; rw [show subX "NoValue" "NoTerm" = false from by decide +kernel]; exact PySem.W.exm_ref sc_NoTerm ed_NoTerm tc_NoTerm xe_NoValue_NoTerm
      · rw [PySem.W.mg_of X G ac_NotFlat] at hm; cases hm; rw [show subX "NotFlat" "NoTerm" = false from by decide +kernel]; exact PySem.W.exm_ref sc_NoTerm ed_NoTerm tc_NoTerm xe_NotFlat_NoTerm
      · rw [PySem.W.mg_of X G ac_NoKind] at hm; cases hm; rw [show subX "NoKind" "NoTerm" = false from by decide +kernel]; exact PySem.W.exm_ref sc_NoTerm ed_NoTerm tc_NoTerm xe_NoKind_NoTerm
      · rw [PySem.W.mg_of X G ac_NoEdit] at hm; cases hm; rw [show subX "NoEdit" "NoTerm" = false from by decide +kernel]; exact PySem.W.exm_ref sc_NoTerm ed_NoTerm tc_NoTerm xe_NoEdit_NoTerm,
    hx_NoProgram := fun r hr cls hm => by
      simp only [RS, List.mem_cons, List.not_mem_nil, or_false] at hr
      rcases hr with rfl | rfl | rfl | rfl | rfl | rfl | rfl | rfl
      · rw [PySem.W.mg_of X G ac_NoRow] at hm; cases hm; rw [show subX "NoRow" "NoProgram" = false from by decide +kernel]; exact PySem.W.exm_ref sc_NoProgram ed_NoProgram tc_NoProgram xe_NoRow_NoProgram
      · rw [PySem.W.mg_of X G ac_NoText] at hm; cases hm; rw [show subX "NoText" "NoProgram" = false from by decide +kernel]; exact PySem.W.exm_ref sc_NoProgram ed_NoProgram tc_NoProgram xe_NoText_NoProgram
      · rw [PySem.W.mg_of X G ac_NoProgram] at hm; cases hm; rw [show subX "NoProgram" "NoProgram" = true from by decide +kernel]; exact PySem.W.exm_ref sc_NoProgram ed_NoProgram tc_NoProgram xe_NoProgram_NoProgram
      · rw [PySem.W.mg_of X G ac_NoTerm] at hm; cases hm; rw [show subX "NoTerm" "NoProgram" = false from by decide +kernel]; exact PySem.W.exm_ref sc_NoProgram ed_NoProgram tc_NoProgram xe_NoTerm_NoProgram
      · rw [PySem.W.mg_of X G ac_NoValue] at hm; cases hm; rw [show subX "NoValue" "NoProgram" = false from by decide +kernel]; exact PySem.W.exm_ref sc_NoProgram ed_NoProgram tc_NoProgram xe_NoValue_NoProgram
      · rw [PySem.W.mg_of X G ac_NotFlat] at hm; cases hm; rw [show subX "NotFlat" "NoProgram" = false from by decide +kernel]; exact PySem.W.exm_ref sc_NoProgram ed_NoProgram tc_NoProgram xe_NotFlat_NoProgram
      · rw [PySem.W.mg_of X G ac_NoKind] at hm; cases hm; rw [show subX "NoKind" "NoProgram" = false from by decide +kernel]; exact PySem.W.exm_ref sc_NoProgram ed_NoProgram tc_NoProgram xe_NoKind_NoProgram
      · rw [PySem.W.mg_of X G ac_NoEdit] at hm; cases hm; rw [show subX "NoEdit" "NoProgram" = false from by decide +kernel]; exact PySem.W.exm_ref sc_NoProgram ed_NoProgram tc_NoProgram xe_NoEdit_NoProgram,
    hx_NoText := fun r hr cls hm => by
      simp only [RS, List.mem_cons, List.not_mem_nil, or_false] at hr
      rcases hr with rfl | rfl | rfl | rfl | rfl | rfl | rfl | rfl
      · rw [PySem.W.mg_of X G ac_NoRow] at hm; cases hm; rw [show subX "NoRow" "NoText" = false from by decide +kernel]; exact PySem.W.exm_ref sc_NoText ed_NoText tc_NoText xe_NoRow_NoText
      · rw [PySem.W.mg_of X G ac_NoText] at hm; cases hm; rw [show subX "NoText" "NoText" = true from by decide +kernel]; exact PySem.W.exm_ref sc_NoText ed_NoText tc_NoText xe_NoText_NoText
      · rw [PySem.W.mg_of X G ac_NoProgram] at hm; cases hm; rw [show subX "NoProgram" "NoText" = false from by decide +kernel]; exact PySem.W.exm_ref sc_NoText ed_NoText tc_NoText xe_NoProgram_NoText
      · rw [PySem.W.mg_of X G ac_NoTerm] at hm; cases hm; rw [show subX "NoTerm" "NoText" = false from by decide +kernel]; exact PySem.W.exm_ref sc_NoText ed_NoText tc_NoText xe_NoTerm_NoText
      · rw [PySem.W.mg_of X G ac_NoValue] at hm; cases hm; rw [show subX "NoValue" "NoText" = false from by decide +kernel]; exact PySem.W.exm_ref sc_NoText ed_NoText tc_NoText xe_NoValue_NoText
      · rw [PySem.W.mg_of X G ac_NotFlat] at hm; cases hm; rw [show subX "NotFlat" "NoText" = false from by decide +kernel]; exact PySem.W.exm_ref sc_NoText ed_NoText tc_NoText xe_NotFlat_NoText
      · rw [PySem.W.mg_of X G ac_NoKind] at hm; cases hm; rw [show subX "NoKind" "NoText" = false from by decide +kernel]; exact PySem.W.exm_ref sc_NoText ed_NoText tc_NoText xe_NoKind_NoText
      · rw [PySem.W.mg_of X G ac_NoEdit] at hm; cases hm; rw [show subX "NoEdit" "NoText" = false from by decide +kernel]; exact PySem.W.exm_ref sc_NoText ed_NoText tc_NoText xe_NoEdit_NoText,
    hx_SideError := fun r hr cls hm => by
      simp only [RS, List.mem_cons, List.not_mem_nil, or_false] at hr
      rcases hr with rfl | rfl | rfl | rfl | rfl | rfl | rfl | rfl
      · rw [PySem.W.mg_of X G ac_NoRow] at hm; cases hm; rw [show subX "NoRow" "SideError" = true from by decide +kernel]; exact PySem.W.exm_ref sc_SideError ed_SideError tc_SideError xe_NoRow_SideError
      · rw [PySem.W.mg_of X G ac_NoText] at hm; cases hm; rw [show subX "NoText" "SideError" = true from by decide +kernel]; exact PySem.W.exm_ref sc_SideError ed_SideError tc_SideError xe_NoText_SideError
      · rw [PySem.W.mg_of X G ac_NoProgram] at hm; cases hm; rw [show subX "NoProgram" "SideError" = true from by decide +kernel]; exact PySem.W.exm_ref sc_SideError ed_SideError tc_SideError xe_NoProgram_SideError
      · rw [PySem.W.mg_of X G ac_NoTerm] at hm; cases hm; rw [show subX "NoTerm" "SideError" = true from by decide +kernel]; exact PySem.W.exm_ref sc_SideError ed_SideError tc_SideError xe_NoTerm_SideError
      · rw [PySem.W.mg_of X G ac_NoValue] at hm; cases hm; rw [show subX "NoValue" "SideError" = true from by decide +kernel]; exact PySem.W.exm_ref sc_SideError ed_SideError tc_SideError xe_NoValue_SideError
      · rw [PySem.W.mg_of X G ac_NotFlat] at hm; cases hm; rw [show subX "NotFlat" "SideError" = true from by decide +kernel]; exact PySem.W.exm_ref sc_SideError ed_SideError tc_SideError xe_NotFlat_SideError
      · rw [PySem.W.mg_of X G ac_NoKind] at hm; cases hm; rw [show subX "NoKind" "SideError" = true from by decide +kernel]; exact PySem.W.exm_ref sc_SideError ed_SideError tc_SideError xe_NoKind_SideError
      · rw [PySem.W.mg_of X G ac_NoEdit] at hm; cases hm; rw [show subX "NoEdit" "SideError" = true from by decide +kernel]; exact PySem.W.exm_ref sc_SideError ed_SideError tc_SideError xe_NoEdit_SideError,
    is_NoText := ⟨fun r hr cls hm => by
      simp only [RS, List.mem_cons, List.not_mem_nil, or_false] at hr
      rcases hr with rfl | rfl | rfl | rfl | rfl | rfl | rfl | rfl
      · rw [PySem.W.mg_of X G ac_NoRow] at hm; cases hm; rw [show subX "NoRow" "NoText" = false from by decide +kernel]; exact xk_NoRow_NoText
      · rw [PySem.W.mg_of X G ac_NoText] at hm; cases hm; rw [show subX "NoText" "NoText" = true from by decide +kernel]; exact xk_NoText_NoText
      · rw [PySem.W.mg_of X G ac_NoProgram] at hm; cases hm; rw [show subX "NoProgram" "NoText" = false from by decide +kernel]; exact xk_NoProgram_NoText
      · rw [PySem.W.mg_of X G ac_NoTerm] at hm; cases hm; rw [show subX "NoTerm" "NoText" = false from by decide +kernel]; exact xk_NoTerm_NoText
      · rw [PySem.W.mg_of X G ac_NoValue] at hm; cases hm; rw [show subX "NoValue" "NoText" = false from by decide +kernel]; exact xk_NoValue_NoText
      · rw [PySem.W.mg_of X G ac_NotFlat] at hm; cases hm; rw [show subX "NotFlat" "NoText" = false from by decide +kernel]; exact xk_NotFlat_NoText
      · rw [PySem.W.mg_of X G ac_NoKind] at hm; cases hm; rw [show subX "NoKind" "NoText" = false from by decide +kernel]; exact xk_NoKind_NoText
      · rw [PySem.W.mg_of X G ac_NoEdit] at hm; cases hm; rw [show subX "NoEdit" "NoText" = false from by decide +kernel]; exact xk_NoEdit_NoText⟩,
    is_NoProgram := ⟨fun r hr cls hm => by
      simp only [RS, List.mem_cons, List.not_mem_nil, or_false] at hr
      rcases hr with rfl | rfl | rfl | rfl | rfl | rfl | rfl | rfl
      · rw [PySem.W.mg_of X G ac_NoRow] at hm; cases hm; rw [show subX "NoRow" "NoProgram" = false from by decide +kernel]; exact xk_NoRow_NoProgram
      · rw [PySem.W.mg_of X G ac_NoText] at hm; cases hm; rw [show subX "NoText" "NoProgram" = false from by decide +kernel]; exact xk_NoText_NoProgram
      · rw [PySem.W.mg_of X G ac_NoProgram] at hm; cases hm; rw [show subX "NoProgram" "NoProgram" = true from by decide +kernel]; exact xk_NoProgram_NoProgram
      · rw [PySem.W.mg_of X G ac_NoTerm] at hm; cases hm; rw [show subX "NoTerm" "NoProgram" = false from by decide +kernel]; exact xk_NoTerm_NoProgram
      · rw [PySem.W.mg_of X G ac_NoValue] at hm; cases hm; rw [show subX "NoValue" "NoProgram" = false from by decide +kernel]; exact xk_NoValue_NoProgram
      · rw [PySem.W.mg_of X G ac_NotFlat] at hm; cases hm; rw [show subX "NotFlat" "NoProgram" = false from by decide +kernel]; exact xk_NotFlat_NoProgram
      · rw [PySem.W.mg_of X G ac_NoKind] at hm; cases hm; rw [show subX "NoKind" "NoProgram" = false from by decide +kernel]; exact xk_NoKind_NoProgram
      · rw [PySem.W.mg_of X G ac_NoEdit] at hm; cases hm; rw [show subX "NoEdit" "NoProgram" = false from by decide +kernel]; exact xk_NoEdit_NoProgram⟩,
    is_NoTerm := ⟨fun r hr cls hm => by
      simp only [RS, List.mem_cons, List.not_mem_nil, or_false] at hr
      rcases hr with rfl | rfl | rfl | rfl | rfl | rfl | rfl | rfl
      · rw [PySem.W.mg_of X G ac_NoRow] at hm; cases hm; rw [show subX "NoRow" "NoTerm" = false from by decide +kernel]; exact xk_NoRow_NoTerm
      · rw [PySem.W.mg_of X G ac_NoText] at hm; cases hm; rw [show subX "NoText" "NoTerm" = false from by decide +kernel]; exact xk_NoText_NoTerm
      · rw [PySem.W.mg_of X G ac_NoProgram] at hm; cases hm; rw [show subX "NoProgram" "NoTerm" = false from by decide +kernel]; exact xk_NoProgram_NoTerm
      · rw [PySem.W.mg_of X G ac_NoTerm] at hm; cases hm; rw [show subX "NoTerm" "NoTerm" = true from by decide +kernel]; exact xk_NoTerm_NoTerm
      · rw [PySem.W.mg_of X G ac_NoValue] at hm; cases hm; rw [show subX "NoValue" "NoTerm" = false from by decide +kernel]; exact xk_NoValue_NoTerm
      · rw [PySem.W.mg_of X G ac_NotFlat] at hm; cases hm; rw [show subX "NotFlat" "NoTerm" = false from by decide +kernel]; exact xk_NotFlat_NoTerm
      · rw [PySem.W.mg_of X G ac_NoKind] at hm; cases hm; rw [show subX "NoKind" "NoTerm" = false from by decide +kernel]; exact xk_NoKind_NoTerm
      · rw [PySem.W.mg_of X G ac_NoEdit] at hm; cases hm; rw [show subX "NoEdit" "NoTerm" = false from by decide +kernel]; exact xk_NoEdit_NoTerm⟩,
    is_NoValue := ⟨fun r hr cls hm => by
      simp only [RS, List.mem_cons, List.not_mem_nil, or_false] at hr
      rcases hr with rfl | rfl | rfl | rfl | rfl | rfl | rfl | rfl
      · rw [PySem.W.mg_of X G ac_NoRow] at hm; cases hm; rw [show subX "NoRow" "NoValue" = false from by decide +kernel]; exact xk_NoRow_NoValue
      · rw [PySem.W.mg_of X G ac_NoText] at hm; cases hm; rw [show subX "NoText" "NoValue" = false from by decide +kernel]; exact xk_NoText_NoValue
      · rw [PySem.W.mg_of X G ac_NoProgram] at hm; cases hm; rw [show subX "NoProgram" "NoValue" = false from by decide +kernel]; exact xk_NoProgram_NoValue
      · rw [PySem.W.mg_of X G ac_NoTerm] at hm; cases hm; rw [show subX "NoTerm" "NoValue" = false from by decide +kernel]; exact xk_NoTerm_NoValue
      · rw [PySem.W.mg_of X G ac_NoValue] at hm; cases hm; rw [show subX "NoValue" "NoValue" = true from by decide +kernel]; exact xk_NoValue_NoValue
      · rw [PySem.W.mg_of X G ac_NotFlat] at hm; cases hm; rw [show subX "NotFlat" "NoValue" = false from by decide +kernel]; exact xk_NotFlat_NoValue
      · rw [PySem.W.mg_of X G ac_NoKind] at hm; cases hm; rw [show subX "NoKind" "NoValue" = false from by decide +kernel]; exact xk_NoKind_NoValue
      · rw [PySem.W.mg_of X G ac_NoEdit] at hm; cases hm; rw [show subX "NoEdit" "NoValue" = false from by decide +kernel]; exact xk_NoEdit_NoValue⟩,
    is_NotFlat := ⟨fun r hr cls hm => by
      simp only [RS, List.mem_cons, List.not_mem_nil, or_false] at hr
      rcases hr with rfl | rfl | rfl | rfl | rfl | rfl | rfl | rfl
      · rw [PySem.W.mg_of X G ac_NoRow] at hm; cases hm; rw [show subX "NoRow" "NotFlat" = false from by decide +kernel]; exact xk_NoRow_NotFlat
      · rw [PySem.W.mg_of X G ac_NoText] at hm; cases hm; rw [show subX "NoText" "NotFlat" = false from by decide +kernel]; exact xk_NoText_NotFlat
      · rw [PySem.W.mg_of X G ac_NoProgram] at hm; cases hm; rw [show subX "NoProgram" "NotFlat" = false from by decide +kernel]; exact xk_NoProgram_NotFlat
      · rw [PySem.W.mg_of X G ac_NoTerm] at hm; cases hm; rw [show subX "NoTerm" "NotFlat" = false from by decide +kernel]; exact xk_NoTerm_NotFlat
      · rw [PySem.W.mg_of X G ac_NoValue] at hm; cases hm; rw [show subX "NoValue" "NotFlat" = false from by decide +kernel]; exact xk_NoValue_NotFlat
      · rw [PySem.W.mg_of X G ac_NotFlat] at hm; cases hm; rw [show subX "NotFlat" "NotFlat" = true from by decide +kernel]; exact xk_NotFlat_NotFlat
      · rw [PySem.W.mg_of X G ac_NoKind] at hm; cases hm; rw [show subX "NoKind" "NotFlat" = false from by decide +kernel]; exact xk_NoKind_NotFlat
      · rw [PySem.W.mg_of X G ac_NoEdit] at hm; cases hm; rw [show subX "NoEdit" "NotFlat" = false from by decide +kernel]; exact xk_NoEdit_NotFlat⟩,
    is_NoKind := ⟨fun r hr cls hm => by
      simp only [RS, List.mem_cons, List.not_mem_nil, or_false] at hr
      rcases hr with rfl | rfl | rfl | rfl | rfl | rfl | rfl | rfl
      · rw [PySem.W.mg_of X G ac_NoRow] at hm; cases hm; rw [show subX "NoRow" "NoKind" = false from by decide +kernel]; exact xk_NoRow_NoKind
      · rw [PySem.W.mg_of X G ac_NoText] at hm; cases hm; rw [show subX "NoText" "NoKind" = false from by decide +kernel]; exact xk_NoText_NoKind
      · rw [PySem.W.mg_of X G ac_NoProgram] at hm; cases hm; rw [show subX "NoProgram" "NoKind" = false from by decide +kernel]; exact xk_NoProgram_NoKind
      · rw [PySem.W.mg_of X G ac_NoTerm] at hm; cases hm; rw [show subX "NoTerm" "NoKind" = false from by decide +kernel]; exact xk_NoTerm_NoKind
      · rw [PySem.W.mg_of X G ac_NoValue] at hm; cases hm; rw [show subX "NoValue" "NoKind" = false from by decide +kernel]; exact xk_NoValue_NoKind
      · rw [PySem.W.mg_of X G ac_NotFlat] at hm; cases hm; rw [show subX "NotFlat" "NoKind" = false from by decide +kernel]; exact xk_NotFlat_NoKind
      · rw [PySem.W.mg_of X G ac_NoKind] at hm; cases hm; rw [show subX "NoKind" "NoKind" = true from by decide +kernel]; exact xk_NoKind_NoKind
      · rw [PySem.W.mg_of X G ac_NoEdit] at hm; cases hm; rw [show subX "NoEdit" "NoKind" = false from by decide +kernel]; exact xk_NoEdit_NoKind⟩,
    is_NoEdit := ⟨fun r hr cls hm => by
      simp only [RS, List.mem_cons, List.not_mem_nil, or_false] at hr
      rcases hr with rfl | rfl | rfl | rfl | rfl | rfl | rfl | rfl
      · rw [PySem.W.mg_of X G ac_NoRow] at hm; cases hm; rw [show subX "NoRow" "NoEdit" = false from by decide +kernel]; exact xk_NoRow_NoEdit
      · rw [PySem.W.mg_of X G ac_NoText] at hm; cases hm; rw [show subX "NoText" "NoEdit" = false from by decide +kernel]; exact xk_NoText_NoEdit
      · rw [PySem.W.mg_of X G ac_NoProgram] at hm; cases hm; rw [show subX "NoProgram" "NoEdit" = false from by decide +kernel]; exact xk_NoProgram_NoEdit
      · rw [PySem.W.mg_of X G ac_NoTerm] at hm; cases hm; rw [show subX "NoTerm" "NoEdit" = false from by decide +kernel]; exact xk_NoTerm_NoEdit
      · rw [PySem.W.mg_of X G ac_NoValue] at hm; cases hm; rw [show subX "NoValue" "NoEdit" = false from by decide +kernel]; exact xk_NoValue_NoEdit
      · rw [PySem.W.mg_of X G ac_NotFlat] at hm; cases hm; rw [show subX "NotFlat" "NoEdit" = false from by decide +kernel]; exact xk_NotFlat_NoEdit
      · rw [PySem.W.mg_of X G ac_NoKind] at hm; cases hm; rw [show subX "NoKind" "NoEdit" = false from by decide +kernel]; exact xk_NoKind_NoEdit
      · rw [PySem.W.mg_of X G ac_NoEdit] at hm; cases hm; rw [show subX "NoEdit" "NoEdit" = true from by decide +kernel]; exact xk_NoEdit_NoEdit⟩,
    is_NoRow := ⟨fun r hr cls hm => by
      simp only [RS, List.mem_cons, List.not_mem_nil, or_false] at hr
      rcases hr with rfl | rfl | rfl | rfl | rfl | rfl | rfl | rfl
      · rw [PySem.W.mg_of X G ac_NoRow] at hm; cases hm; rw [show subX "NoRow" "NoRow" = true from by decide +kernel]; exact xk_NoRow_NoRow
      · rw [PySem.W.mg_of X G ac_NoText] at hm; cases hm; rw [show subX "NoText" "NoRow" = false from by decide +kernel]; exact xk_NoText_NoRow
      · rw [PySem.W.mg_of X G ac_NoProgram] at hm; cases hm; rw [show subX "NoProgram" "NoRow" = false from by decide +kernel]; exact xk_NoProgram_NoRow
      · rw [PySem.W.mg_of X G ac_NoTerm] at hm; cases hm; rw [show subX "NoTerm" "NoRow" = false from by decide +kernel]; exact xk_NoTerm_NoRow
      · rw [PySem.W.mg_of X G ac_NoValue] at hm; cases hm; rw [show subX "NoValue" "NoRow" = false from by decide +kernel]; exact xk_NoValue_NoRow
      · rw [PySem.W.mg_of X G ac_NotFlat] at hm; cases hm; rw [show subX "NotFlat" "NoRow" = false from by decide +kernel]; exact xk_NotFlat_NoRow
      · rw [PySem.W.mg_of X G ac_NoKind] at hm; cases hm; rw [show subX "NoKind" "NoRow" = false from by decide +kernel]; exact xk_NoKind_NoRow
      · rw [PySem.W.mg_of X G ac_NoEdit] at hm; cases hm; rw [show subX "NoEdit" "NoRow" = false from by decide +kernel]; exact xk_NoEdit_NoRow⟩,
    is_ValueError := ⟨fun r hr cls hm => by
      simp only [RS, List.mem_cons, List.not_mem_nil, or_false] at hr
      rcases hr with rfl | rfl | rfl | rfl | rfl | rfl | rfl | rfl
      · rw [PySem.W.mg_of X G ac_NoRow] at hm; cases hm; rw [show subX "NoRow" "ValueError" = true from by decide +kernel]; exact xk_NoRow_ValueError
      · rw [PySem.W.mg_of X G ac_NoText] at hm; cases hm; rw [show subX "NoText" "ValueError" = true from by decide +kernel]; exact xk_NoText_ValueError
      · rw [PySem.W.mg_of X G ac_NoProgram] at hm; cases hm; rw [show subX "NoProgram" "ValueError" = true from by decide +kernel]; exact xk_NoProgram_ValueError
      · rw [PySem.W.mg_of X G ac_NoTerm] at hm; cases hm; rw [show subX "NoTerm" "ValueError" = true from by decide +kernel]; exact xk_NoTerm_ValueError
      · rw [PySem.W.mg_of X G ac_NoValue] at hm; cases hm; rw [show subX "NoValue" "ValueError" = true from by decide +kernel]; exact xk_NoValue_ValueError
      · rw [PySem.W.mg_of X G ac_NotFlat] at hm; cases hm; rw [show subX "NotFlat" "ValueError" = true from by decide +kernel]; exact xk_NotFlat_ValueError
      · rw [PySem.W.mg_of X G ac_NoKind] at hm; cases hm; rw [show subX "NoKind" "ValueError" = true from by decide +kernel]; exact xk_NoKind_ValueError
      · rw [PySem.W.mg_of X G ac_NoEdit] at hm; cases hm; rw [show subX "NoEdit" "ValueError" = true from by decide +kernel]; exact xk_NoEdit_ValueError⟩,
    z_ValueError := PySem.W.mg_none_of X G z_ValueError,
    z_all := PySem.W.mg_none_of X G z_all,
    z_isinstance := PySem.W.mg_none_of X G z_isinstance,
    z_len := PySem.W.mg_none_of X G z_len,
    z_list := PySem.W.mg_none_of X G z_list,
    z_max := PySem.W.mg_none_of X G z_max,
    z_range := PySem.W.mg_none_of X G z_range,
    z_reversed := PySem.W.mg_none_of X G z_reversed }
  exact ⟨PySem.W.fnOf "law" "law" (defArgs st_law) (defBody st_law) (defScope st_law) .none kV7 dc7 pm7 an7 cd7 ct7, fun s v => .of_eq rfl, fun base _ _ => law_imp (ok_law (P := l.prog) (w := w) (base := base) T)⟩
end K06

namespace K06
open PySem L2 PF
abbrev S := List Nat
theorem drw {d : D} (m : Int) (ok : dealOk d) (hm : 0 < m) (hm2 : m ≤ 4611686018427387904) : ∃ r d', 0 ≤ r ∧ r < m ∧ dealOk d' ∧ g__law_draw [.mt d, .imm (.int m)] = .ret (.imm (.int r)) [.mt d', .imm (.int m)] := drawN m ok hm hm2
/-- what each refusal is -/
def fsOf (k : Nat) (r : D) (s : D) : Xc := match k with
  | 0 => ⟨"NoText", [("row", r)]⟩
  | 1 => ⟨"NoProgram", [("row", r), ("word", s)]⟩
  | 2 => ⟨"NoTerm", []⟩
  | 3 => ⟨"NoValue", []⟩
  | 4 => ⟨"NotFlat", [("row", r)]⟩
  | 5 => ⟨"NoKind", []⟩
  | 6 => ⟨"NoEdit", []⟩
  | _ => ⟨"NoRow", []⟩
theorem refuse_ok : ∀ (k : Nat), k < 8 → ∀ (r : Int) (s : S), g__law_refuse [.imm (.int k), .imm (.int r), .imm (.str s)] = .exc (fsOf k (.int r) (.str s)) [.imm (.int k), .imm (.int r), .imm (.str s)] := by
  intro k hk r s
  rcases (by omega : k = 0 ∨ k = 1 ∨ k = 2 ∨ k = 3 ∨ k = 4 ∨ k = 5 ∨ k = 6 ∨ k = 7) with rfl | rfl | rfl | rfl | rfl | rfl | rfl | rfl <;>
  · unfold g__law_refuse b__law_refuse
    simp! only [PF.x_rz0, PF.x_rz1, PF.x_rz11, PF.x_rz2, PF.x_rz21, PF.x_try, PF.x_tryn, PF.x_tryr, PF.x_trye, PF.x_isx, PF.x_isx1, PF.x_xf, PF.x_xf1]
    rfl
/-- the found list -/
def wOf (k : Nat) (r : D) (s : D) : List D := match k with
  | 0 => [r]
  | 1 => [s, r]
  | 4 => [r]
  | _ => []
theorem caught_ok : ∀ (k : Nat), k < 8 → ∀ (r : Int) (s : S), g__law_caught [.imm (.int k), .imm (.int r), .imm (.str s)] = .ret (.own (.lst (.int k :: wOf k (.int r) (.str s)))) [.imm (.int k), .imm (.int r), .imm (.str s)] := by
  intro k hk r s
  have e := refuse_ok k hk r s
  obtain ⟨R, hR⟩ : ∃ R, R = D.int r := ⟨_, rfl⟩
  obtain ⟨T, hT⟩ : ∃ T, T = D.str s := ⟨_, rfl⟩
  have fR : ∀ (c : Str) (a : Addr) (d : Option Addr) (ρ : PF.Env), xfK c (Str.ofString "row") a d c ρ (some (.xcp a d [(Str.ofString "row", R)])) = .ok (.imm R) ρ := fun _ _ _ _ => x_xf1 rfl
  have fT : ∀ (c : Str) (a : Addr) (d : Option Addr) (ρ : PF.Env), xfK c (Str.ofString "row") a d c ρ (some (.xcp a d [(Str.ofString "row", R), (Str.ofString "word", T)])) = .ok (.imm R) ρ := fun _ _ _ _ => x_xf1 rfl
  have fU : ∀ (c : Str) (a : Addr) (d : Option Addr) (ρ : PF.Env), xfK c (Str.ofString "word") a d c ρ (some (.xcp a d [(Str.ofString "row", R), (Str.ofString "word", T)])) = .ok (.imm T) ρ := fun _ _ _ _ => x_xf1 rfl
  rw [← hR, ← hT] at e ⊢
  clear hR hT
  have l1 : ∀ a : D, lstD [a] = some (.own (.lst [a])) := fun a => if_pos (by show 1 ≤ 1000000; decide)
  have l2 : ∀ a b : D, lstD [a, b] = some (.own (.lst [a, b])) := fun a b => if_pos (by show 2 ≤ 1000000; decide)
  have l3 : ∀ a b c : D, lstD [a, b, c] = some (.own (.lst [a, b, c])) := fun a b c => if_pos (by show 3 ≤ 1000000; decide)
  rcases (by omega : k = 0 ∨ k = 1 ∨ k = 2 ∨ k = 3 ∨ k = 4 ∨ k = 5 ∨ k = 6 ∨ k = 7) with rfl | rfl | rfl | rfl | rfl | rfl | rfl | rfl <;>
  · unfold g__law_caught b__law_caught
    unfold sTryM
    simp! only [PF.x_rz0, PF.x_rz1, PF.x_rz11, PF.x_rz2, PF.x_rz21, PF.x_try, PF.x_tryn, PF.x_tryr, PF.x_trye, PF.x_isx, PF.x_isx1, PF.x_xf, PF.x_xf1, e, fsOf, hdlM, fR, fT, fU]
    rw [uni_eq (o := _) (fun a d => by
      simp! only [PF.x_rz0, PF.x_rz1, PF.x_rz11, PF.x_rz2, PF.x_rz21, PF.x_try, PF.x_tryn, PF.x_tryr, PF.x_trye, PF.x_isx, PF.x_isx1, PF.x_xf, PF.x_xf1, offS, noX, l1, l2, l3, fR, fT, fU]
      rfl)]
    simp! only [PF.x_rz0, PF.x_rz1, PF.x_rz11, PF.x_rz2, PF.x_rz21, PF.x_try, PF.x_tryn, PF.x_tryr, PF.x_trye, PF.x_isx, PF.x_isx1, PF.x_xf, PF.x_xf1, wOf]
    try rfl
def ksOf (k : Nat) : List D := ((List.range 8).map fun j => D.bl (decide (j = k))) ++ [.bl true]
theorem kinds_ok : ∀ (k : Nat), k < 8 → ∀ (r : Int) (s : S), g__law_kinds [.imm (.int k), .imm (.int r), .imm (.str s)] = .ret (.own (.lst (ksOf k))) [.imm (.int k), .imm (.int r), .imm (.str s)] := by
  intro k hk r s
  have e := refuse_ok k hk r s
  obtain ⟨R, hR⟩ : ∃ R, R = D.int r := ⟨_, rfl⟩
  obtain ⟨T, hT⟩ : ∃ T, T = D.str s := ⟨_, rfl⟩
  have fR : ∀ (c : Str) (a : Addr) (d : Option Addr) (ρ : PF.Env), xfK c (Str.ofString "row") a d c ρ (some (.xcp a d [(Str.ofString "row", R)])) = .ok (.imm R) ρ := fun _ _ _ _ => x_xf1 rfl
  have fT : ∀ (c : Str) (a : Addr) (d : Option Addr) (ρ : PF.Env), xfK c (Str.ofString "row") a d c ρ (some (.xcp a d [(Str.ofString "row", R), (Str.ofString "word", T)])) = .ok (.imm R) ρ := fun _ _ _ _ => x_xf1 rfl
  have fU : ∀ (c : Str) (a : Addr) (d : Option Addr) (ρ : PF.Env), xfK c (Str.ofString "word") a d c ρ (some (.xcp a d [(Str.ofString "row", R), (Str.ofString "word", T)])) = .ok (.imm T) ρ := fun _ _ _ _ => x_xf1 rfl
  rw [← hR, ← hT] at e ⊢
  clear hR hT
  have l1 : ∀ a : D, lstD [a] = some (.own (.lst [a])) := fun a => if_pos (by show 1 ≤ 1000000; decide)
  have l4 : ∀ a b c d : D, lstD [a, b, c, d] = some (.own (.lst [a, b, c, d])) := fun a b c d => if_pos (by show 4 ≤ 1000000; decide)
  have p1 : ∀ a b c d a' b' c' d' : D, plusD (.lst [a, b, c, d]) (.lst [a', b', c', d']) = some (.own (.lst [a, b, c, d, a', b', c', d'])) := fun _ _ _ _ _ _ _ _ => x_plusL _ _ (by show 8 ≤ 1000000; decide)
  have p2 : ∀ a b c d a' b' c' d' e : D, plusD (.lst [a, b, c, d, a', b', c', d']) (.lst [e]) = some (.own (.lst [a, b, c, d, a', b', c', d', e])) := fun _ _ _ _ _ _ _ _ _ => x_plusL _ _ (by show 9 ≤ 1000000; decide)
  rcases (by omega : k = 0 ∨ k = 1 ∨ k = 2 ∨ k = 3 ∨ k = 4 ∨ k = 5 ∨ k = 6 ∨ k = 7) with rfl | rfl | rfl | rfl | rfl | rfl | rfl | rfl <;>
  · unfold g__law_kinds b__law_kinds
    simp! only [PF.x_rz0, PF.x_rz1, PF.x_rz11, PF.x_rz2, PF.x_rz21, PF.x_try, PF.x_tryn, PF.x_tryr, PF.x_trye, PF.x_isx, PF.x_isx1, PF.x_xf, PF.x_xf1, e, fsOf, hdl, fR, fT, fU]
    rw [uni_eq (o := _) (fun a d => by
      simp! only [PF.x_rz0, PF.x_rz1, PF.x_rz11, PF.x_rz2, PF.x_rz21, PF.x_try, PF.x_tryn, PF.x_tryr, PF.x_trye, PF.x_isx, PF.x_isx1, PF.x_xf, PF.x_xf1, offS, l1, l4, p1, p2, fR, fT, fU]
      rfl)]
    simp! only [PF.x_rz0, PF.x_rz1, PF.x_rz11, PF.x_rz2, PF.x_rz21, PF.x_try, PF.x_tryn, PF.x_tryr, PF.x_trye, PF.x_isx, PF.x_isx1, PF.x_xf, PF.x_xf1]
    try rfl
end K06

namespace K06
open PySem L2 PF
noncomputable def rg1 : SS := (sSet 3 (eGet2 (eDspI [(0, (eFrz (eArgs lstD (aCons (eFrz (eVar 1)) aNil)))), (1, (eFrz (eArgs lstD (aCons (eFrz (eVar 2)) (aCons (eFrz (eVar 1)) aNil))))), (4, (eFrz (eArgs lstD (aCons (eFrz (eVar 1)) aNil))))]) (eFrz (eVar 0)) (eFrz (eArgs lstD aNil))))
noncomputable def rg2 : SE := (eLc (iRng (aCons (eC (.int 8)) aNil)) (.nm 4) stYes (eBin eqD (eVar 4) (eVar 0)))
theorem rg1_ok (k : Nat) (hk : k < 8) (r : Int) (s : S) : rg1 [.imm (.int k), .imm (.int r), .imm (.str s), .non, .non] = .nx [.imm (.int k), .imm (.int r), .imm (.str s), .imm (.lst (wOf k (.int r) (.str s))), .non] := by
  rcases (by omega : k = 0 ∨ k = 1 ∨ k = 2 ∨ k = 3 ∨ k = 4 ∨ k = 5 ∨ k = 6 ∨ k = 7) with rfl | rfl | rfl | rfl | rfl | rfl | rfl | rfl <;> rfl
theorem rl_eq (k : Nat) (hk : k < 8) : ((List.range 8).map fun j : Nat => D.bl ((0 + (j : Int)) == (k : Int))) = ((List.range 8).map fun j => D.bl (decide (j = k))) := by
  rcases (by omega : k = 0 ∨ k = 1 ∨ k = 2 ∨ k = 3 ∨ k = 4 ∨ k = 5 ∨ k = 6 ∨ k = 7) with rfl | rfl | rfl | rfl | rfl | rfl | rfl | rfl <;> rfl
theorem rg2_ok (k : Nat) (hk : k < 8) (a b c : Sl) : rg2 [.imm (.int k), a, b, c, .non] = .ok (.own (.lst ((List.range 8).map fun j => D.bl (decide (j = k))))) [.imm (.int k), a, b, c, .non] := by
  have hbig : (1000 : Nat) < big := by decide
  obtain ⟨acc, ρ', e, ea, ep⟩ := lcL_go (t := .nm 4) (c := stYes) (e := eBin eqD (eVar 4) (eVar 0)) (fun m acc ρ => acc = ((List.range m).map fun j : Nat => D.bl ((0 + (j : Int)) == (k : Int))) ∧ ρ = [.imm (.int k), a, b, c, .non])
    (rngD 0 8) 0 [] [.imm (.int k), a, b, c, .non] ⟨rfl, rfl⟩ (fun j x hx acc ρ h => by
      obtain ⟨rfl, rfl⟩ := h
      obtain ⟨rfl, hj⟩ := rngD_get hx
      refine ⟨[.imm (.int k), a, b, c, .imm (.int (0 + j))], rfl, true, _, rfl, fun _ => ⟨by rw [List.length_map, List.length_range]; omega, .bl ((0 + (j : Int)) == (k : Int)), [.imm (.int k), a, b, c, .imm (.int (0 + j))], ?_, by rw [Nat.zero_add, List.range_succ, List.map_append]; rfl, rfl⟩, fun z => nomatch z⟩
      simp! [eqI])
  rw [rngD_len, Nat.zero_add, rl_eq k hk] at ea
  subst ea ep
  have h62 : small62 8 = true := x_sm62 (by decide)
  unfold rg2
  simp! only [e, h62, show (8 : Int).toNat = 8 from rfl]
theorem right_ok (k : Nat) (hk : k < 8) (r : Int) (s : S) : g__law_right [.imm (.int k), .imm (.int r), .imm (.str s)] = .ret (.imm (.bl true)) [.imm (.int k), .imm (.int r), .imm (.str s)] := by
  have e1 := rg1_ok k hk r s
  have e2 := rg2_ok k hk (.imm (.int r)) (.imm (.str s)) (.imm (.lst (wOf k (.int r) (.str s))))
  have e3 := kinds_ok k hk r s
  have e4 := caught_ok k hk r s
  have ok1 : okP 180 (.lst (ksOf k)) = true := by
    rcases (by omega : k = 0 ∨ k = 1 ∨ k = 2 ∨ k = 3 ∨ k = 4 ∨ k = 5 ∨ k = 6 ∨ k = 7) with rfl | rfl | rfl | rfl | rfl | rfl | rfl | rfl <;> rfl
  have ok2 : okP 180 (.lst (.int k :: wOf k (.int r) (.str s))) = true := by
    rcases (by omega : k = 0 ∨ k = 1 ∨ k = 2 ∨ k = 3 ∨ k = 4 ∨ k = 5 ∨ k = 6 ∨ k = 7) with rfl | rfl | rfl | rfl | rfl | rfl | rfl | rfl <;> rfl
  have n1 : neD (.lst (ksOf k)) (.lst (ksOf k)) = some (.imm (.bl false)) := by unfold neD; rw [ok1, eqP_refl _ ok1]; rfl
  have n2 : eqD (.lst (.int k :: wOf k (.int r) (.str s))) (.lst (.int k :: wOf k (.int r) (.str s))) = some (.imm (.bl true)) := by unfold eqD; rw [ok2, eqP_refl _ ok2]; rfl
  have p1 : plusD (.lst ((List.range 8).map fun j => D.bl (decide (j = k)))) (.lst [.bl true]) = some (.own (.lst (ksOf k))) := x_plusL _ _ (by rw [List.length_map, List.length_range]; decide)
  have p2 : plusD (.lst [.int k]) (.lst (wOf k (.int r) (.str s))) = some (.own (.lst (.int k :: wOf k (.int r) (.str s)))) := x_plusL _ _ (by
    have : (wOf k (.int r) (.str s)).length ≤ 2 := by unfold wOf; split <;> simp
    have : (5000 : Nat) < big := by decide
    rw [List.length_singleton]; omega)
  have l1 : ∀ a : D, lstD [a] = some (.own (.lst [a])) := fun a => if_pos (by show 1 ≤ 1000000; decide)
  generalize ksOf k = KS at *
  generalize wOf k (.int r) (.str s) = WS at *
  generalize ((List.range 8).map fun j => D.bl (decide (j = k))) = RL at *
  show runG 3 5 (sSeq rg1 (sSeq (sIf (tV (eBin neD (eCall g__law_kinds (aCons (eFrz (eVar 0)) (aCons (eFrz (eVar 1)) (aCons (eFrz (eVar 2)) aNil)))) (eBin plusD rg2 (eArgs lstD (aCons (eC (.bl true)) aNil))))) (sRet (eC (.bl false))) sPass)
    (sRet (eBin eqD (eCall g__law_caught (aCons (eFrz (eVar 0)) (aCons (eFrz (eVar 1)) (aCons (eFrz (eVar 2)) aNil)))) (eBin plusD (eArgs lstD (aCons (eFrz (eVar 0)) aNil)) (eVar 3)))))) _ = _
  simp! only [e1, e2, e3, e4, n1, n2, p1, p2, l1]
theorem letters_ok {d : D} (ok : dealOk d) : ∃ (s : S) (d' : D), dealOk d' ∧ g__law_letters [.mt d] = .ret (.imm (.str s)) [.mt d'] := by
  obtain ⟨n, d1, n0, n1, ok1, en⟩ := drw 8 ok (by decide) (by decide)
  have hbig : (1000 : Nat) < big := by decide
  obtain ⟨m, hm⟩ : ∃ m : Nat, 1 + n = (m : Int) := ⟨(1 + n).toNat, by omega⟩
  obtain ⟨acc, ρ', e, cs, d', ok', ea, ep, h1⟩ := lcL_go (t := .nm 2) (c := stYes) (e := eBin idxD (eVar 1) (eCall g__law_draw (aCons (eVar 0) (aCons (eC (.int 26)) aNil)))) (fun k acc ρ => ∃ (cs : List Nat) (d' : D), dealOk d' ∧ acc = (cs.map fun c => D.str [c]) ∧ ρ = [.par d', .imm (.str letters), .non] ∧ cs.length = k)
    (rngD 0 m) 0 [] [.par d1, .imm (.str letters), .non] ⟨[], d1, ok1, rfl, rfl, rfl⟩ (fun j x hx acc ρ h => by
      obtain ⟨cs, d1, ok1, rfl, rfl, h1⟩ := h
      obtain ⟨rfl, hj⟩ := rngD_get hx
      obtain ⟨r, d2, r0, r1, ok2, e⟩ := drw 26 ok1 (by decide) (by decide)
      obtain ⟨c, hc, _, ec⟩ := idx_str (s := letters) r0 r1 (by decide)
      refine ⟨[.par d1, .imm (.str letters), .imm (.int (0 + j))], rfl, true, _, rfl, fun _ => ⟨by rw [List.length_map]; omega, .str [c], [.par d2, .imm (.str letters), .imm (.int (0 + j))], ?_, cs ++ [c], d2, ok2, by simp, rfl, by rw [List.length_append, h1]; rw [List.length_singleton]⟩, fun z => nomatch z⟩
      simp! [e, ec])
  rw [rngD_len, Nat.zero_add] at h1
  subst ea ep
  obtain ⟨core, hcc, ecore⟩ := joins_eq cs (by omega)
  have h62 : small62 (m : Int) = true := x_sm62 (by simp; omega)
  refine ⟨core, d', ok', ?_⟩
  unfold g__law_letters b__law_letters
  have hlet : ([97, 98, 99, 100, 101, 102, 103, 104, 105, 106, 107, 108, 109, 110, 111, 112, 113, 114, 115, 116, 117, 118, 119, 120, 121, 122] : S) = letters := rfl
  rw [hlet]
  simp! only [en, hm, h62, show ((m : Int)).toNat = m from rfl, e, ecore]
end K06

namespace K06
open PySem L2 PF
/-! ### rows for simp -/
def p2K3 (j : Nat) (e : D) : Option PF.Env → SOut
  | some ρ3 => nxK (putS j (.own e) ρ3)
  | none => .fail
def p2K2 (i j : Nat) (d : D) : Out Vl → SOut
  | .ok (.own e) ρ2 => p2K3 j e (putS i (.own d) ρ2)
  | _ => .fail
def p2K (i j : Nat) (b : SE) : Out Vl → SOut
  | .ok (.own d) ρ1 => p2K2 i j d (b ρ1)
  | _ => .fail
theorem y_p2 {i j : Nat} {a b : SE} {ρ : PF.Env} : sPar2 i j a b ρ = p2K i j b (a ρ) := by
  unfold sPar2 p2K
  cases a ρ with
  | fail => rfl
  | exc x r => rfl
  | ok v r =>
    cases v with
    | imm d => rfl
    | ref j => rfl
    | own d =>
      dsimp only
      unfold p2K2
      cases b r with
      | fail => rfl
      | exc x r => rfl
      | ok v r =>
        cases v with
        | imm d => rfl
        | ref j => rfl
        | own e =>
          dsimp only
          unfold p2K3
          cases putS i (.own d) r with
          | none => rfl
          | some r3 =>
            dsimp only
            cases putS j (.own e) r3 <;> rfl
theorem y_p21 {i j : Nat} {b : SE} {d : D} {ρ : PF.Env} : p2K i j b (.ok (.own d) ρ) = p2K2 i j d (b ρ) := rfl
theorem y_p22 {i j : Nat} {d e : D} {ρ : PF.Env} : p2K2 i j d (.ok (.own e) ρ) = p2K3 j e (putS i (.own d) ρ) := rfl
theorem y_p23 {j : Nat} {e : D} {ρ : PF.Env} : p2K3 j e (some ρ) = nxK (putS j (.own e) ρ) := rfl
def mk1K (x f : Str) : Out (List Vl) → Out Vl
  | .ok vs ρ1 => match imms vs with
    | some [d] => .ok (.own (.obj x [(f, d)])) ρ1
    | _ => .fail
  | .exc y ρ1 => .exc y ρ1
  | .fail => .fail
theorem y_m1 {x f : Str} {sa : SA} {ρ : PF.Env} : eMkX1 x f sa ρ = mk1K x f (sa ρ) := rfl
theorem y_m11 {x f : Str} {d : D} {ρ : PF.Env} : mk1K x f (.ok [.imm d] ρ) = .ok (.own (.obj x [(f, d)])) ρ := rfl
def mk2K (x f g : Str) : Out (List Vl) → Out Vl
  | .ok vs ρ1 => match imms vs with
    | some [d, e] => .ok (.own (.obj x [(g, e), (f, d)])) ρ1
    | _ => .fail
  | .exc y ρ1 => .exc y ρ1
  | .fail => .fail
theorem y_m2 {x f g : Str} {sa : SA} {ρ : PF.Env} : eMkX2 x f g sa ρ = mk2K x f g (sa ρ) := rfl
theorem y_m21 {x f g : Str} {d e : D} {ρ : PF.Env} : mk2K x f g (.ok [.imm d, .imm e] ρ) = .ok (.own (.obj x [(g, e), (f, d)])) ρ := rfl
def xgK (c f : Str) (ρ : PF.Env) : Option D → Out Vl
  | some (.obj c' fs) => if c' = c then match fs.lookup f with
      | some d => .ok (.imm d) ρ
      | none => .fail
    else .fail
  | _ => .fail
theorem y_xg {c f : Str} {i : Nat} {ρ : PF.Env} : eXg c f i ρ = xgK c f ρ (owS i ρ) := rfl
def xgTK (c f : Str) : Out Vl → Out Vl
  | .ok (.own (.obj c' fs)) ρ1 => if c' = c then match fs.lookup f with
      | some d => .ok (.imm d) ρ1
      | none => .fail
    else .fail
  | .exc y ρ1 => .exc y ρ1
  | _ => .fail
theorem y_xgT {c f : Str} {e : SE} {ρ : PF.Env} : eXgT c f e ρ = xgTK c f (e ρ) := rfl
theorem y_t {d : D} {ρ : PF.Env} : xgTK "NotFlat" "row" (.ok (.own (.obj "NotFlat" [("row", d)])) ρ) = .ok (.imm d) ρ := rfl
theorem y_x1 {d : D} {ρ : PF.Env} : xgK "NoText" "row" ρ (some (.obj "NoText" [("row", d)])) = .ok (.imm d) ρ := rfl
theorem y_x2 {d e : D} {ρ : PF.Env} : xgK "NoProgram" "row" ρ (some (.obj "NoProgram" [("row", e), ("word", d)])) = .ok (.imm e) ρ := rfl
theorem y_x3 {d e : D} {ρ : PF.Env} : xgK "NoProgram" "word" ρ (some (.obj "NoProgram" [("row", e), ("word", d)])) = .ok (.imm d) ρ := rfl
/-! ### lists -/
theorem idx_any {l : List D} {i : Int} (h0 : -(l.length : Int) ≤ i) (h1 : i < l.length) : ∃ d, d ∈ l ∧ idxD (.lst l) (.int i) = some (.imm d) := by
  have : ∃ j, L2.ixN l.length i = some j ∧ j < l.length := by
    unfold L2.ixN
    by_cases h : 0 ≤ i
    · rw [if_pos h, if_pos h1]; exact ⟨_, rfl, by omega⟩
    · rw [if_neg h, if_pos h0]; exact ⟨_, rfl, by omega⟩
  obtain ⟨j, e, hj⟩ := this
  refine ⟨l[j], List.getElem_mem hj, ?_⟩
  show Option.map Vl.imm (L2.atI l i) = _
  unfold L2.atI
  rw [e, Option.bind_some, List.getElem?_eq_getElem hj]; rfl
theorem idx_ints {l : List Int} {i : Int} (h0 : -(l.length : Int) ≤ i) (h1 : i < l.length) : ∃ r : Int, idxD (.lst (l.map .int)) (.int i) = some (.imm (.int r)) := by
  obtain ⟨d, hd, e⟩ := idx_any (l := l.map D.int) (by rw [List.length_map]; exact h0) (by rw [List.length_map]; exact h1)
  obtain ⟨r, _, rfl⟩ := List.mem_map.mp hd
  exact ⟨r, e⟩
theorem idx_strs {l : List S} {i : Int} (h0 : -(l.length : Int) ≤ i) (h1 : i < l.length) : ∃ r : S, idxD (.lst (l.map .str)) (.int i) = some (.imm (.str r)) := by
  obtain ⟨d, hd, e⟩ := idx_any (l := l.map D.str) (by rw [List.length_map]; exact h0) (by rw [List.length_map]; exact h1)
  obtain ⟨r, _, rfl⟩ := List.mem_map.mp hd
  exact ⟨r, e⟩
theorem bls_true (n : Nat) : blsD (List.replicate n (.bl true)) = some (List.replicate n true) := by
  induction n with
  | zero => rfl
  | succ n ih => rw [List.replicate_succ, List.replicate_succ]; unfold blsD; rw [ih]; rfl
theorem all_true (n : Nat) : allD (.lst (List.replicate n (.bl true))) = some (.imm (.bl true)) := by
  unfold allD
  simp only [bls_true]
  congr 3
  simp
noncomputable def lwB : SS := (sSeq (sApp 2 (eBin idxD (eArgs lstD (aCons (eFrz (eCall g__law_draw (aCons (eVar 1) (aCons (eC (.int 3)) aNil)))) (aCons (eFrz (eCall g__law_draw (aCons (eVar 1) (aCons (eBin powD (eC (.int 10)) (eC (.int 18))) aNil)))) aNil))) (eCall g__law_draw (aCons (eVar 1) (aCons (eC (.int 2)) aNil)))))
    (sSeq (sApp 3 (eFrz (eCall g__law_letters (aCons (eVar 1) aNil))))
    (sIf (stNot (tTr (eCall g__law_right (aCons (eFrz (eVar 4)) (aCons (eBin idxD (eVar 2) (eUn negD (eC (.int 1)))) (aCons (eBin idxD (eVar 3) (eUn negD (eC (.int 1)))) aNil)))))) (sRet (eC (.bl false))) sPass)))
theorem lwB_ok {k : Nat} (hk : k < 8) {d : D} (ok : dealOk d) {ls : List Int} {ws : List S} (h1 : ls.length = k) (h2 : ws.length = k) (r0 : Sl) : ∃ (r : Int) (s : S) (d' : D), dealOk d' ∧
    lwB [r0, .own d, .own (.lst (ls.map .int)), .own (.lst (ws.map .str)), .imm (.int k), .non, .non, .non, .non] = .nx [r0, .own d', .own (.lst ((ls ++ [r]).map .int)), .own (.lst ((ws ++ [s]).map .str)), .imm (.int k), .non, .non, .non, .non] := by
  have hbig : (5000 : Nat) < big := by decide
  obtain ⟨a, d1, _, _, ok1, e1⟩ := drw 3 ok (by decide) (by decide)
  obtain ⟨b, d2, _, _, ok2, e2⟩ := drw 1000000000000000000 ok1 (by decide) (by decide)
  obtain ⟨c, d3, c0, c1, ok3, e3⟩ := drw 2 ok2 (by decide) (by decide)
  obtain ⟨s, d4, ok4, e4⟩ := letters_ok ok3
  obtain ⟨r, er⟩ : ∃ r : Int, idxD (.lst [.int a, .int b]) (.int c) = some (.imm (.int r)) := by
    rcases (by omega : c = 0 ∨ c = 1) with rfl | rfl
    · exact ⟨a, rfl⟩
    · exact ⟨b, rfl⟩
  have pw : powD (.int 10) (.int 18) = some (.imm (.int 1000000000000000000)) := rfl
  have l2 : ∀ a b : D, lstD [a, b] = some (.own (.lst [a, b])) := fun a b => if_pos (by show 2 ≤ 1000000; decide)
  have i1 : idxD (.lst (ls.map .int ++ [.int r])) (.int (-1)) = some (.imm (.int r)) := by
    show Option.map Vl.imm (L2.atI _ (-1)) = _
    rw [atI_last]; rfl
  have i2 : idxD (.lst (ws.map .str ++ [.str s])) (.int (-1)) = some (.imm (.str s)) := by
    show Option.map Vl.imm (L2.atI _ (-1)) = _
    rw [atI_last]; rfl
  have e5 := right_ok k hk r s
  have b1 : (ls.map D.int).length < big := by rw [List.length_map]; omega
  have b2 : (ws.map D.str).length < big := by rw [List.length_map]; omega
  refine ⟨r, s, d4, ok4, ?_⟩
  rw [List.map_append, List.map_append, List.map_singleton, List.map_singleton]
  generalize ls.map D.int = LI at *
  generalize ws.map D.str = WI at *
  unfold lwB
  dsimp! only [e1, e2, e3, e4, er, pw, l2, i1, i2, e5, b1, b2]
end K06

namespace K06
open PySem L2 PF
noncomputable def lwL : SS := (sFor (iRng (aCons (eC (.int 8)) aNil)) (.nm 4) lwB)
noncomputable def lwC : SE := (eLc (iRng (aCons (eC (.int 8)) aNil)) (.nm 4) stYes (eFrz (eCall g__law_right (aCons (eFrz (eVar 4)) (aCons (eBin idxD (eVar 2) (eBin subD (eVar 4) (eC (.int 3)))) (aCons (eBin idxD (eVar 3) (eBin subD (eVar 4) (eC (.int 2)))) aNil))))))
noncomputable def lwA : SS := (sIf (stNot (tTr (eUn allD lwC))) (sRet (eC (.bl false))) sPass)
noncomputable def lwP : SS := (sPar2 5 6 (eMkX1 "NoText" "row" (aCons (eBin idxD (eVar 2) (eC (.int 0))) aNil)) (eMkX1 "NoText" "row" (aCons (eBin idxD (eVar 2) (eC (.int 1))) aNil)))
noncomputable def lwQ : SS := (sPar2 7 8 (eMkX2 "NoProgram" "word" "row" (aCons (eBin idxD (eVar 3) (eC (.int 0))) (aCons (eBin idxD (eVar 2) (eC (.int 2))) aNil))) (eMkX2 "NoProgram" "word" "row" (aCons (eBin idxD (eVar 3) (eC (.int 1))) (aCons (eBin idxD (eVar 2) (eC (.int 3))) aNil))))
noncomputable def lwI : SS := (sIf (tV (eBin neD (eArgs lstD (aCons (eFrz (eXg "NoText" "row" 5)) (aCons (eFrz (eXg "NoText" "row" 6)) (aCons (eFrz (eXgT "NotFlat" "row" (eMkX1 "NotFlat" "row" (aCons (eBin idxD (eVar 2) (eC (.int 4))) aNil)))) aNil)))) (eArgs lstD (aCons (eBin idxD (eVar 2) (eC (.int 0))) (aCons (eBin idxD (eVar 2) (eC (.int 1))) (aCons (eBin idxD (eVar 2) (eC (.int 4))) aNil)))))) (sRet (eC (.bl false))) sPass)
noncomputable def lwZ : SS := (sRet (eBin eqD (eArgs lstD (aCons (eFrz (eXg "NoProgram" "word" 7)) (aCons (eFrz (eXg "NoProgram" "row" 7)) (aCons (eFrz (eXg "NoProgram" "word" 8)) (aCons (eFrz (eXg "NoProgram" "row" 8)) aNil))))) (eArgs lstD (aCons (eBin idxD (eVar 3) (eC (.int 0))) (aCons (eBin idxD (eVar 2) (eC (.int 2))) (aCons (eBin idxD (eVar 3) (eC (.int 1))) (aCons (eBin idxD (eVar 2) (eC (.int 3))) aNil)))))))
theorem b_law_eq : b_law = (sSeq (sSet 1 (eCall g__law_deal (aCons (eFrz (eVar 0)) (aCons (eC (.int 0)) aNil))))
    (sSeq (sPar2 2 3 (eArgs lstD aNil) (eArgs lstD aNil)) (sSeq lwL (sSeq lwA (sSeq lwP (sSeq lwQ (sSeq lwI lwZ))))))) := rfl
theorem lwL_ok {d : D} (ok : dealOk d) (r0 : Sl) : ∃ (ls : List Int) (ws : List S) (d' s4 : _), ls.length = 8 ∧ ws.length = 8 ∧ nim s4 ∧
    lwL [r0, .own d, .own (.lst []), .own (.lst []), .non, .non, .non, .non, .non] = .nx [r0, .own d', .own (.lst (ls.map .int)), .own (.lst (ws.map .str)), s4, .non, .non, .non, .non] := by
  obtain ⟨ρ', eL, ls, ws, d', s4, ok', h1, h2, h4, er⟩ := forL_nx (t := .nm 4) (body := lwB) (l := rngD 0 8) (ρ := [r0, .own d, .own (.lst []), .own (.lst []), .non, .non, .non, .non, .non])
    (fun j ρ => ∃ (ls : List Int) (ws : List S) (d' : D) (s4 : Sl), dealOk d' ∧ ls.length = j ∧ ws.length = j ∧ nim s4 ∧ ρ = [r0, .own d', .own (.lst (ls.map .int)), .own (.lst (ws.map .str)), s4, .non, .non, .non, .non])
    ⟨[], [], d, .non, ok, rfl, rfl, trivial, rfl⟩ (fun j x hx ρ h => by
      obtain ⟨ls, ws, d1, s4, ok1, h1, h2, h4, rfl⟩ := h
      obtain ⟨rfl, hj⟩ := rngD_get hx
      obtain ⟨r, s, d2, ok2, e⟩ := lwB_ok hj ok1 h1 h2 r0
      refine ⟨[r0, .own d1, .own (.lst (ls.map .int)), .own (.lst (ws.map .str)), .imm (.int j), .non, .non, .non, .non], _, ?_, .inl e, ls ++ [r], ws ++ [s], d2, .imm (.int j), ok2, by rw [List.length_append, h1]; rfl, by rw [List.length_append, h2]; rfl, nim1 _, rfl⟩
      rw [Int.zero_add]
      simp! [h4])
  rw [rngD_len] at h1 h2
  refine ⟨ls, ws, d', s4, h1, h2, h4, ?_⟩
  have h62 : small62 8 = true := x_sm62 (by decide)
  unfold lwL
  subst er
  simp! only [h62, show (8 : Int).toNat = 8 from rfl, eL]
theorem lwA_ok {ls : List Int} {ws : List S} (h1 : ls.length = 8) (h2 : ws.length = 8) (r0 r1 s4 : Sl) (h4 : nim s4) :
    lwA [r0, r1, .own (.lst (ls.map .int)), .own (.lst (ws.map .str)), s4, .non, .non, .non, .non] = .nx [r0, r1, .own (.lst (ls.map .int)), .own (.lst (ws.map .str)), s4, .non, .non, .non, .non] := by
  have hbig : (1000 : Nat) < big := by decide
  obtain ⟨acc, ρ', e, ea, ep⟩ := lcL_go (t := .nm 4) (c := stYes) (e := (eFrz (eCall g__law_right (aCons (eFrz (eVar 4)) (aCons (eBin idxD (eVar 2) (eBin subD (eVar 4) (eC (.int 3)))) (aCons (eBin idxD (eVar 3) (eBin subD (eVar 4) (eC (.int 2)))) aNil))))))
    (fun k acc ρ => acc = List.replicate k (D.bl true) ∧ ρ = [r0, r1, .own (.lst (ls.map .int)), .own (.lst (ws.map .str)), .non, .non, .non, .non, .non])
    (rngD 0 8) 0 [] [r0, r1, .own (.lst (ls.map .int)), .own (.lst (ws.map .str)), .non, .non, .non, .non, .non] ⟨rfl, rfl⟩ (fun j x hx acc ρ h => by
      obtain ⟨rfl, rfl⟩ := h
      obtain ⟨rfl, hj⟩ := rngD_get hx
      rw [Int.zero_add, Nat.zero_add]
      obtain ⟨r, er⟩ := idx_ints (l := ls) (i := (j : Int) - 3) (by omega) (by omega)
      obtain ⟨s, es⟩ := idx_strs (l := ws) (i := (j : Int) - 2) (by omega) (by omega)
      have ej := right_ok j hj r s
      refine ⟨[r0, r1, .own (.lst (ls.map .int)), .own (.lst (ws.map .str)), .imm (.int j), .non, .non, .non, .non], ?_, true, _, rfl, fun _ => ⟨by rw [List.length_replicate]; omega, .bl true, [r0, r1, .own (.lst (ls.map .int)), .own (.lst (ws.map .str)), .imm (.int j), .non, .non, .non, .non], ?_, ?_, rfl⟩, fun z => nomatch z⟩
      · rfl
      · simp! [er, es, ej]
      · rw [← List.replicate_succ'])
  rw [rngD_len, Nat.zero_add] at ea
  subst ea ep
  have h62 : small62 8 = true := x_sm62 (by decide)
  have ha := all_true 8
  unfold lwA lwC
  generalize ls.map D.int = LI at *
  generalize ws.map D.str = WI at *
  generalize List.replicate 8 (D.bl true) = TR at *
  simp (decide := true) -implicitDefEqProofs only [h4, PF.x_var, PF.x_vi, PF.x_vo, PF.x_vp, PF.x_c, PF.x_rdi, PF.x_rdo, PF.x_rdr, PF.x_rki, PF.x_rko, PF.x_rkp, PF.x_opt, PF.x_bin, PF.x_bin1, PF.x_bin2, PF.x_bin3, PF.x_un, PF.x_un1, PF.x_un2, PF.x_frz, PF.x_fzi, PF.x_fzo, PF.x_fzr, PF.x_fki, PF.x_fko, PF.x_fzl, PF.x_fzd, PF.x_fzt, PF.x_args, PF.x_args1, PF.x_args2, PF.x_im0, PF.x_im1, PF.x_nil, PF.x_cons, PF.x_cons1, PF.x_cons2, PF.x_cons3, PF.x_call, PF.x_call1, PF.x_call2, PF.x_call3, PF.x_call4, PF.x_ta0, PF.x_ta1, PF.x_ta2, PF.x_tk1, PF.x_tk2, PF.x_tk3, PF.x_rf0, PF.x_rf1, PF.x_rf2, PF.x_nd0, PF.x_nd1, PF.x_nd2, PF.x_wb0, PF.x_wb1, PF.x_po0, PF.x_po1, PF.x_po2, PF.x_w0, PF.x_w1, PF.x_w2, PF.x_w3, PF.x_wk1, PF.x_wk2, PF.x_tV, PF.x_tV1, PF.x_tr, PF.x_tr1, PF.x_tr2, PF.x_tr3, PF.x_not, PF.x_not1, PF.x_and, PF.x_and1, PF.x_and2, PF.x_or, PF.x_or1, PF.x_or2, PF.x_andV, PF.x_andV1, PF.x_andV2, PF.x_orV, PF.x_orV1, PF.x_orV2, PF.x_notV, PF.x_notV1, PF.x_if, PF.x_if1, PF.x_if2, PF.x_pno, PF.x_pat, PF.x_pat1, PF.x_slc, PF.x_slc1, PF.x_slc2, PF.x_slc3, PF.x_m1, PF.x_m11, PF.x_m12, PF.x_isS, PF.x_iof, PF.x_iof1, PF.x_iof2, PF.x_itl, PF.x_itt, PF.x_its, PF.x_rng, PF.x_rng1, PF.x_rng2, PF.x_lc, PF.x_lc1, PF.x_lc2, PF.x_tg1, PF.x_wi0, PF.x_wi1, PF.x_re0, PF.x_re1, PF.x_gk, PF.x_ia0, PF.x_ia1, PF.x_ii1, PF.x_ii2, PF.x_seq, PF.x_seq1, PF.x_seq2, PF.x_seq3, PF.x_seq4, PF.x_seq5, PF.x_pass, PF.x_brk, PF.x_cont, PF.x_retN, PF.x_nxK, PF.x_put, PF.x_pk1, PF.x_pk2, PF.x_pk3, PF.x_set, PF.x_set1, PF.x_set2, PF.x_set3, PF.x_asg, PF.x_asg1, PF.x_setN, PF.x_setTp, PF.x_sts0, PF.x_sts1, PF.x_sts2, PF.x_ifS, PF.x_ifS1, PF.x_ifS2, PF.x_ret, PF.x_ret1, PF.x_ret2, PF.x_exp, PF.x_exp1, PF.x_exp2, PF.x_ow, PF.x_ow1, PF.x_ow2, PF.x_rs, PF.x_rs1, PF.x_rs2, PF.x_app, PF.x_app1, PF.x_app2, PF.x_app3, PF.x_sput, PF.x_sput1, PF.x_sput2, PF.x_sput3, PF.x_sput4, PF.x_sput5, PF.x_for, PF.x_for1, PF.x_run, PF.x_fin1, PF.x_fin2, PF.x_fin3, PF.x_fin4, PF.x_fin5, PF.x_rvi, PF.x_rvo, PF.x_rvr, PF.x_rk1, PF.x_rk2, PF.x_ba0, PF.x_ba1, PF.x_ba2, PF.x_se, PF.x_si, PF.x_sm, PF.x_tupD, PF.x_lstD, PF.x_plusS, PF.x_plusL, PF.x_lenS, PF.x_lenL, PF.x_lenT, PF.x_sub, PF.x_lt, PF.x_gt, PF.x_le, PF.x_ge, PF.x_neg, PF.x_revs, PF.x_neB, PF.x_eqB, PF.x_tB, PF.x_pkn, PF.x_iin, PF.x_slcS, PF.x_slcL, PF.x_slcT, PF.x_memT, PF.x_memL, PF.x_yes, PF.x_tms, PF.x_mod, PF.x_fdiv, PF.x_sm62, PF.x_big, PF.x_bigL, PF.x_par, PF.x_par1, PF.x_par2, PF.x_enm, PF.x_enm1, PF.x_enm2, PF.x_newT, PF.x_dsp, PF.x_dsp1, PF.x_dspN, PF.x_dspC, PF.x_dspA, PF.x_dspB, PF.x_zip, PF.x_zip1, PF.x_zip2, PF.x_tg2, PF.x_tg3, PF.x_tg4, PF.x_newK, PF.x_isB, PF.x_pkR, PF.x_pkR1, PF.x_pkR2, PF.x_pkR3, PF.x_pkR4, PF.x_cpk, PF.x_cpk0, PF.x_cpk1, PF.x_ins, PF.x_ins0, PF.x_ins1, PF.x_ins2, PF.Out.bind_ok, PF.Out.bind_exc, PF.Out.bind_fail, List.getElem?_cons_zero, List.getElem?_cons_succ, List.set_cons_zero, List.set_cons_succ, PF.plusI, PF.eqI, Option.map_some, Option.map_none, List.length_cons, List.length_nil, Nat.zero_add, Nat.add_zero, List.map_cons, List.map_nil, reduceIte, if_true, if_false, Nat.reduceAdd, Nat.reduceSub, Nat.reduceLeDiff, List.replicate_succ, List.replicate_zero, List.cons_append, List.nil_append, Bool.false_eq_true, Bool.not_true, Bool.not_false, List.getElem?_nil, Bool.and_true, Bool.true_and, bne_iff_ne, ne_eq, Nat.succ_ne_zero, not_false_eq_true, not_true_eq_false, reduceCtorEq, Nat.add_one_sub_one, eq_self, Int.reduceLT, Int.reduceLE, Int.reduceNeg, Int.reduceAdd, Int.reduceSub, Int.reduceMul, Int.reduceEq, Int.reduceBEq, Int.reduceBNe, Int.reduceMod, Int.reduceDiv, Nat.reduceEqDiff, Int.reduceToNat, decide_true, decide_false, true_and, and_true, and_self, Bool.and_self, h62, show (8 : Int).toNat = 8 from rfl, e, ha]
theorem law_true (ns : List Int) (hl : ns.length ≤ 63) (hb : ∀ z ∈ ns, Builtin.Int.intBits z ≤ 1048576) : ∃ bs, g_law [.imm (.lst (ns.map .int))] = .ret (.imm (.bl true)) bs := by
  have hbig : (5000 : Nat) < big := by decide
  obtain ⟨d1, ok1, e1⟩ := deal_ok (ns := ns) (base := 0) (by omega)
  have e1' : g__law_deal [.imm (.lst (ns.map .int)), .imm (.int 0)] = .ret (.own d1) [.imm (.lst (ns.map .int)), .imm (.int 0)] := e1
  obtain ⟨SC, hSC⟩ : ∃ SC, SC = D.lst (ns.map .int) := ⟨_, rfl⟩
  have fS : fzb SC = true := by rw [hSC]; rfl
  obtain ⟨ls, ws, d2, s4, h1, h2, h4, eL⟩ := lwL_ok ok1 (.imm SC)
  have eA := lwA_ok h1 h2 (.imm SC) (.own d2) s4 h4
  obtain ⟨a0, i0⟩ := idx_ints (l := ls) (i := 0) (by omega) (by omega)
  obtain ⟨a1, i1⟩ := idx_ints (l := ls) (i := 1) (by omega) (by omega)
  obtain ⟨a2, i2⟩ := idx_ints (l := ls) (i := 2) (by omega) (by omega)
  obtain ⟨a3, i3⟩ := idx_ints (l := ls) (i := 3) (by omega) (by omega)
  obtain ⟨a4, i4⟩ := idx_ints (l := ls) (i := 4) (by omega) (by omega)
  obtain ⟨w0, j0⟩ := idx_strs (l := ws) (i := 0) (by omega) (by omega)
  obtain ⟨w1, j1⟩ := idx_strs (l := ws) (i := 1) (by omega) (by omega)
  have ok3 : okP 180 (.lst [.int a0, .int a1, .int a4]) = true := rfl
  have ok4 : okP 180 (.lst [.str w0, .int a2, .str w1, .int a3]) = true := rfl
  have n1 : neD (.lst [.int a0, .int a1, .int a4]) (.lst [.int a0, .int a1, .int a4]) = some (.imm (.bl false)) := by unfold neD; rw [ok3, eqP_refl _ ok3]; rfl
  have n2 : eqD (.lst [.str w0, .int a2, .str w1, .int a3]) (.lst [.str w0, .int a2, .str w1, .int a3]) = some (.imm (.bl true)) := by unfold eqD; rw [ok4, eqP_refl _ ok4]; rfl
  have l3 : ∀ a b c : D, lstD [a, b, c] = some (.own (.lst [a, b, c])) := fun a b c => if_pos (by show 3 ≤ 1000000; decide)
  have l4 : ∀ a b c d : D, lstD [a, b, c, d] = some (.own (.lst [a, b, c, d])) := fun a b c d => if_pos (by show 4 ≤ 1000000; decide)
  have l0 : lstD [] = some (.own (.lst [])) := if_pos (by decide)
  rw [← hSC] at e1' ⊢
  generalize ls.map D.int = LI at *
  generalize ws.map D.str = WI at *
  have eP : lwP [.imm SC, .own d2, .own (.lst LI), .own (.lst WI), s4, .non, .non, .non, .non] = .nx [.imm SC, .own d2, .own (.lst LI), .own (.lst WI), s4, .own (.obj "NoText" [("row", .int a0)]), .own (.obj "NoText" [("row", .int a1)]), .non, .non] := by
    unfold lwP
    simp! only [y_p2, y_p21, y_p22, y_p23, y_m1, y_m11, i0, i1]
  have eQ : lwQ [.imm SC, .own d2, .own (.lst LI), .own (.lst WI), s4, .own (.obj "NoText" [("row", .int a0)]), .own (.obj "NoText" [("row", .int a1)]), .non, .non] = .nx [.imm SC, .own d2, .own (.lst LI), .own (.lst WI), s4, .own (.obj "NoText" [("row", .int a0)]), .own (.obj "NoText" [("row", .int a1)]), .own (.obj "NoProgram" [("row", .int a2), ("word", .str w0)]), .own (.obj "NoProgram" [("row", .int a3), ("word", .str w1)])] := by
    unfold lwQ
    simp! only [y_p2, y_p21, y_p22, y_p23, y_m2, y_m21, i2, i3, j0, j1]
  have eI : lwI [.imm SC, .own d2, .own (.lst LI), .own (.lst WI), s4, .own (.obj "NoText" [("row", .int a0)]), .own (.obj "NoText" [("row", .int a1)]), .own (.obj "NoProgram" [("row", .int a2), ("word", .str w0)]), .own (.obj "NoProgram" [("row", .int a3), ("word", .str w1)])] = .nx [.imm SC, .own d2, .own (.lst LI), .own (.lst WI), s4, .own (.obj "NoText" [("row", .int a0)]), .own (.obj "NoText" [("row", .int a1)]), .own (.obj "NoProgram" [("row", .int a2), ("word", .str w0)]), .own (.obj "NoProgram" [("row", .int a3), ("word", .str w1)])] := by
    unfold lwI
    simp! only [y_m1, y_m11, y_xg, y_xgT, y_t, y_x1, i0, i1, i4, n1, l3]
  have eZ : lwZ [.imm SC, .own d2, .own (.lst LI), .own (.lst WI), s4, .own (.obj "NoText" [("row", .int a0)]), .own (.obj "NoText" [("row", .int a1)]), .own (.obj "NoProgram" [("row", .int a2), ("word", .str w0)]), .own (.obj "NoProgram" [("row", .int a3), ("word", .str w1)])] = .rt (.imm (.bl true)) [.imm SC, .own d2, .own (.lst LI), .own (.lst WI), s4, .own (.obj "NoText" [("row", .int a0)]), .own (.obj "NoText" [("row", .int a1)]), .own (.obj "NoProgram" [("row", .int a2), ("word", .str w0)]), .own (.obj "NoProgram" [("row", .int a3), ("word", .str w1)])] := by
    unfold lwZ
    simp! only [y_xg, y_x2, y_x3, i2, i3, j0, j1, n2, l4]
  have hg : g_law = runG 1 9 b_law := rfl
  rw [hg, b_law_eq]
  have : runG 1 9 (sSeq (sSet 1 (eCall g__law_deal (aCons (eFrz (eVar 0)) (aCons (eC (.int 0)) aNil))))
    (sSeq (sPar2 2 3 (eArgs lstD aNil) (eArgs lstD aNil)) (sSeq lwL (sSeq lwA (sSeq lwP (sSeq lwQ (sSeq lwI lwZ))))))) [.imm SC] = .ret (.imm (.bl true)) [.imm SC] := by
    simp! only [e1', y_p2, y_p21, y_p22, y_p23, l0, eL, eA, eP, eQ, eI, eZ]
  exact ⟨_, this⟩
end K06


open PySem PySem.W PyProof.Rows
set_option maxHeartbeats 0 in
theorem PySem.Challenge.cw_sideturn_k06_refusals_holds : PySem.Challenge.rw_sideturn_k06_refusals.Holds := by
  w_on; o_law; k_head; (case hw => w_witness2)
  k_fill
  refine L2.walk_ofB (l := PySem.Challenge.rw_sideturn_k06_refusals) (n := 63) (k := 6) (x := "_law_script") (CX := fun w => L2N.CX PySem.Challenge.rw_sideturn_k06_refusals.prog w) (sp := fun w => PF.lawSp _ K06.g_law) rfl (by decide) rfl ⟨rfl, by decide, by decide⟩ (fun w h Y => PySem.W.kIn_of Y) ?F (fun _ _ a ns hl hb hO hS => PF.lawSp_go hO hS (K06.law_true ns hl hb)) (fun _ _ _ _ _ h => PF.noCX h)
  case F =>
    intro w mg fa h KX G hmg
    refine' K06.all_mk KX G hmg ?a0 ?l0 ?c0 ?k0 ?a1 ?l1 ?c1 ?k1 ?a2 ?l2 ?c2 ?k2 ?a3 ?l3 ?c3 ?k3 ?a4 ?l4 ?c4 ?k4 ?a5 ?l5 ?c5 ?k5 ?a6 ?l6 ?c6 ?k6 ?a7 ?l7 ?c7 ?k7 ?en ?et ?ac_NoRow ?kc_NoRow ?sc_NoRow ?tc_NoRow ?eg_NoRow ?ek_NoRow ?ed_NoRow ?ea_NoRow ?em_NoRow ?xq_NoRow ?ac_NoText ?kc_NoText ?sc_NoText ?tc_NoText ?eg_NoText ?ek_NoText ?ed_NoText ?ea_NoText ?em_NoText ?xl_NoText ?sa_NoText ?ic_NoText ?ti_NoText ?nf_NoText_row ?li_NoText ?ci_NoText ?ki_NoText ?ac_NoProgram ?kc_NoProgram ?sc_NoProgram ?tc_NoProgram ?eg_NoProgram ?ek_NoProgram ?ed_NoProgram ?ea_NoProgram ?em_NoProgram ?xl_NoProgram ?sa_NoProgram ?ic_NoProgram ?ti_NoProgram ?nf_NoProgram_word ?nf_NoProgram_row ?li_NoProgram ?ci_NoProgram ?ki_NoProgram ?ac_NoTerm ?kc_NoTerm ?sc_NoTerm ?tc_NoTerm ?eg_NoTerm ?ek_NoTerm ?ed_NoTerm ?ea_NoTerm ?em_NoTerm ?xq_NoTerm ?ac_NoValue ?kc_NoValue ?sc_NoValue ?tc_NoValue ?eg_NoValue ?ek_NoValue ?ed_NoValue ?ea_NoValue ?em_NoValue ?xq_NoValue ?ac_NotFlat ?kc_NotFlat ?sc_NotFlat ?tc_NotFlat ?eg_NotFlat ?ek_NotFlat ?ed_NotFlat ?ea_NotFlat ?em_NotFlat ?xl_NotFlat ?sa_NotFlat ?ic_NotFlat ?ti_NotFlat ?nf_NotFlat_row ?li_NotFlat ?ci_NotFlat ?ki_NotFlat ?ac_NoKind ?kc_NoKind ?sc_NoKind ?tc_NoKind ?eg_NoKind ?ek_NoKind ?ed_NoKind ?ea_NoKind ?em_NoKind ?xq_NoKind ?ac_NoEdit ?kc_NoEdit ?sc_NoEdit ?tc_NoEdit ?eg_NoEdit ?ek_NoEdit ?ed_NoEdit ?ea_NoEdit ?em_NoEdit ?xq_NoEdit ?ac_SideError ?sc_SideError ?tc_SideError ?ed_SideError ?xe_NoRow_NoRow ?xe_NoText_NoRow ?xe_NoProgram_NoRow ?xe_NoTerm_NoRow ?xe_NoValue_NoRow ?xe_NotFlat_NoRow ?xe_NoKind_NoRow ?xe_NoEdit_NoRow ?xe_NoRow_NoEdit ?xe_NoText_NoEdit ?xe_NoProgram_NoEdit ?xe_NoTerm_NoEdit ?xe_NoValue_NoEdit ?xe_NotFlat_NoEdit ?xe_NoKind_NoEdit ?xe_NoEdit_NoEdit ?xe_NoRow_NoKind ?xe_NoText_NoKind ?xe_NoProgram_NoKind ?xe_NoTerm_NoKind ?xe_NoValue_NoKind ?xe_NotFlat_NoKind ?xe_NoKind_NoKind ?xe_NoEdit_NoKind ?xe_NoRow_NotFlat ?xe_NoText_NotFlat ?xe_NoProgram_NotFlat ?xe_NoTerm_NotFlat ?xe_NoValue_NotFlat ?xe_NotFlat_NotFlat ?xe_NoKind_NotFlat ?xe_NoEdit_NotFlat ?xe_NoRow_NoValue ?xe_NoText_NoValue ?xe_NoProgram_NoValue ?xe_NoTerm_NoValue ?xe_NoValue_NoValue ?xe_NotFlat_NoValue ?xe_NoKind_NoValue ?xe_NoEdit_NoValue ?xe_NoRow_NoTerm ?xe_NoText_NoTerm ?xe_NoProgram_NoTerm ?xe_NoTerm_NoTerm ?xe_NoValue_NoTerm ?xe_NotFlat_NoTerm ?xe_NoKind_NoTerm ?xe_NoEdit_NoTerm ?xe_NoRow_NoProgram ?xe_NoText_NoProgram ?xe_NoProgram_NoProgram ?xe_NoTerm_NoProgram ?xe_NoValue_NoProgram ?xe_NotFlat_NoProgram ?xe_NoKind_NoProgram ?xe_NoEdit_NoProgram ?xe_NoRow_NoText ?xe_NoText_NoText ?xe_NoProgram_NoText ?xe_NoTerm_NoText ?xe_NoValue_NoText ?xe_NotFlat_NoText ?xe_NoKind_NoText ?xe_NoEdit_NoText ?xe_NoRow_SideError ?xe_NoText_SideError ?xe_NoProgram_SideError ?xe_NoTerm_SideError ?xe_NoValue_SideError ?xe_NotFlat_SideError ?xe_NoKind_SideError ?xe_NoEdit_SideError ?xk_NoRow_NoText ?xk_NoText_NoText ?xk_NoProgram_NoText ?xk_NoTerm_NoText ?xk_NoValue_NoText ?xk_NotFlat_NoText ?xk_NoKind_NoText ?xk_NoEdit_NoText ?xk_NoRow_NoProgram ?xk_NoText_NoProgram ?xk_NoProgram_NoProgram ?xk_NoTerm_NoProgram ?xk_NoValue_NoProgram ?xk_NotFlat_NoProgram ?xk_NoKind_NoProgram ?xk_NoEdit_NoProgram ?xk_NoRow_NoTerm ?xk_NoText_NoTerm ?xk_NoProgram_NoTerm ?xk_NoTerm_NoTerm ?xk_NoValue_NoTerm ?xk_NotFlat_NoTerm ?xk_NoKind_NoTerm ?xk_NoEdit_NoTerm ?xk_NoRow_NoValue ?xk_NoText_NoValue ?xk_NoProgram_NoValue ?xk_NoTerm_NoValue ?xk_NoValue_NoValue ?xk_NotFlat_NoValue ?xk_NoKind_NoValue ?xk_NoEdit_NoValue ?xk_NoRow_NotFlat ?xk_NoText_NotFlat ?xk_NoProgram_NotFlat ?xk_NoTerm_NotFlat ?xk_NoValue_NotFlat ?xk_NotFlat_NotFlat ?xk_NoKind_NotFlat ?xk_NoEdit_NotFlat ?xk_NoRow_NoKind ?xk_NoText_NoKind ?xk_NoProgram_NoKind ?xk_NoTerm_NoKind ?xk_NoValue_NoKind ?xk_NotFlat_NoKind ?xk_NoKind_NoKind ?xk_NoEdit_NoKind ?xk_NoRow_NoEdit ?xk_NoText_NoEdit ?xk_NoProgram_NoEdit ?xk_NoTerm_NoEdit ?xk_NoValue_NoEdit ?xk_NotFlat_NoEdit ?xk_NoKind_NoEdit ?xk_NoEdit_NoEdit ?xk_NoRow_NoRow ?xk_NoText_NoRow ?xk_NoProgram_NoRow ?xk_NoTerm_NoRow ?xk_NoValue_NoRow ?xk_NotFlat_NoRow ?xk_NoKind_NoRow ?xk_NoEdit_NoRow ?xk_NoRow_ValueError ?xk_NoText_ValueError ?xk_NoProgram_ValueError ?xk_NoTerm_ValueError ?xk_NoValue_ValueError ?xk_NotFlat_ValueError ?xk_NoKind_ValueError ?xk_NoEdit_ValueError ?z_ValueError ?z_all ?z_isinstance ?z_len ?z_list ?z_max ?z_range ?z_reversed
    (case a0 => k_is); (case l0 => k_is); (case c0 => k_is); (case k0 => k_is); (case a1 => k_is); (case l1 => k_is); (case c1 => k_is); (case k1 => k_is); (case a2 => k_is); (case l2 => k_is); (case c2 => k_is); (case k2 => k_is); (case a3 => k_is); (case l3 => k_is); (case c3 => k_is); (case k3 => k_is); (case a4 => k_is); (case l4 => k_is); (case c4 => k_is); (case k4 => k_is); (case a5 => k_is); (case l5 => k_is); (case c5 => k_is); (case k5 => k_is); (case a6 => k_is); (case l6 => k_is); (case c6 => k_is); (case k6 => k_is); (case a7 => k_is); (case l7 => k_is); (case c7 => k_is); (case k7 => k_is); (case en => k_is); (case et => k_is); (case ac_NoRow => k_is); (case kc_NoRow => k_is); (case sc_NoRow => k_is); (case tc_NoRow => k_is); (case eg_NoRow => k_is); (case ek_NoRow => k_is); (case ed_NoRow => k_is); (case ea_NoRow => k_is); (case em_NoRow => k_is); (case xq_NoRow => k_exc); (case ac_NoText => k_is); (case kc_NoText => k_is); (case sc_NoText => k_is); (case tc_NoText => k_is); (case eg_NoText => k_is); (case ek_NoText => k_is); (case ed_NoText => k_is); (case ea_NoText => k_is); (case em_NoText => k_is); (case xl_NoText => k_is); (case sa_NoText => k_is); (case ic_NoText => k_is); (case ti_NoText => k_is); (case nf_NoText_row => k_is); (case li_NoText => k_is); (case ci_NoText => k_is); (case ki_NoText => k_is); (case ac_NoProgram => k_is); (case kc_NoProgram => k_is); (case sc_NoProgram => k_is); (case tc_NoProgram => k_is); (case eg_NoProgram => k_is); (case ek_NoProgram => k_is); (case ed_NoProgram => k_is); (case ea_NoProgram => k_is); (case em_NoProgram => k_is); (case xl_NoProgram => k_is); (case sa_NoProgram => k_is); (case ic_NoProgram => k_is); (case ti_NoProgram => k_is); (case nf_NoProgram_word => k_is); (case nf_NoProgram_row => k_is); (case li_NoProgram => k_is); (case ci_NoProgram => k_is); (case ki_NoProgram => k_is); (case ac_NoTerm => k_is); (case kc_NoTerm => k_is); (case sc_NoTerm => k_is); (case tc_NoTerm => k_is); (case eg_NoTerm => k_is); (case ek_NoTerm => k_is); (case ed_NoTerm => k_is); (case ea_NoTerm => k_is); (case em_NoTerm => k_is); (case xq_NoTerm => k_exc); (case ac_NoValue => k_is); (case kc_NoValue => k_is); (case sc_NoValue => k_is); (case tc_NoValue => k_is); (case eg_NoValue => k_is); (case ek_NoValue => k_is); (case ed_NoValue => k_is); (case ea_NoValue => k_is); (case em_NoValue => k_is); (case xq_NoValue => k_exc); (case ac_NotFlat => k_is); (case kc_NotFlat => k_is); (case sc_NotFlat => k_is); (case tc_NotFlat => k_is); (case eg_NotFlat => k_is); (case ek_NotFlat => k_is); (case ed_NotFlat => k_is); (case ea_NotFlat => k_is); (case em_NotFlat => k_is); (case xl_NotFlat => k_is); (case sa_NotFlat => k_is); (case ic_NotFlat => k_is); (case ti_NotFlat => k_is); (case nf_NotFlat_row => k_is); (case li_NotFlat => k_is); (case ci_NotFlat => k_is); (case ki_NotFlat => k_is); (case ac_NoKind => k_is); (case kc_NoKind => k_is); (case sc_NoKind => k_is); (case tc_NoKind => k_is); (case eg_NoKind => k_is); (case ek_NoKind => k_is); (case ed_NoKind => k_is); (case ea_NoKind => k_is); (case em_NoKind => k_is); (case xq_NoKind => k_exc); (case ac_NoEdit => k_is); (case kc_NoEdit => k_is); (case sc_NoEdit => k_is); (case tc_NoEdit => k_is); (case eg_NoEdit => k_is); (case ek_NoEdit => k_is); (case ed_NoEdit => k_is); (case ea_NoEdit => k_is); (case em_NoEdit => k_is); (case xq_NoEdit => k_exc); (case ac_SideError => k_is); (case sc_SideError => k_is); (case tc_SideError => k_is); (case ed_SideError => k_is); (case xe_NoRow_NoRow => first | rfl | k_is); (case xe_NoText_NoRow => first | rfl | k_is); (case xe_NoProgram_NoRow => first | rfl | k_is); (case xe_NoTerm_NoRow => first | rfl | k_is); (case xe_NoValue_NoRow => first | rfl | k_is); (case xe_NotFlat_NoRow => first | rfl | k_is); (case xe_NoKind_NoRow => first | rfl | k_is); (case xe_NoEdit_NoRow => first | rfl | k_is); (case xe_NoRow_NoEdit => first | rfl | k_is); (case xe_NoText_NoEdit => first | rfl | k_is); (case xe_NoProgram_NoEdit => first | rfl | k_is); (case xe_NoTerm_NoEdit => first | rfl | k_is); (case xe_NoValue_NoEdit => first | rfl | k_is); (case xe_NotFlat_NoEdit => first | rfl | k_is); (case xe_NoKind_NoEdit => first | rfl | k_is); (case xe_NoEdit_NoEdit => first | rfl | k_is); (case xe_NoRow_NoKind => first | rfl | k_is); (case xe_NoText_NoKind => first | rfl | k_is); (case xe_NoProgram_NoKind => first | rfl | k_is); (case xe_NoTerm_NoKind => first | rfl | k_is); (case xe_NoValue_NoKind => first | rfl | k_is); (case xe_NotFlat_NoKind => first | rfl | k_is); (case xe_NoKind_NoKind => first | rfl | k_is); (case xe_NoEdit_NoKind => first | rfl | k_is); (case xe_NoRow_NotFlat => first | rfl | k_is); (case xe_NoText_NotFlat => first | rfl | k_is); (case xe_NoProgram_NotFlat => first | rfl | k_is); (case xe_NoTerm_NotFlat => first | rfl | k_is); (case xe_NoValue_NotFlat => first | rfl | k_is); (case xe_NotFlat_NotFlat => first | rfl | k_is); (case xe_NoKind_NotFlat => first | rfl | k_is); (case xe_NoEdit_NotFlat => first | rfl | k_is); (case xe_NoRow_NoValue => first | rfl | k_is); (case xe_NoText_NoValue => first | rfl | k_is); (case xe_NoProgram_NoValue => first | rfl | k_is); (case xe_NoTerm_NoValue => first | rfl | k_is); (case xe_NoValue_NoValue => first | rfl | k_is); (case xe_NotFlat_NoValue => first | rfl | k_is); (case xe_NoKind_NoValue => first | rfl | k_is); (case xe_NoEdit_NoValue => first | rfl | k_is); (case xe_NoRow_NoTerm => first | rfl | k_is); (case xe_NoText_NoTerm => first | rfl | k_is); (case xe_NoProgram_NoTerm => first | rfl | k_is); (case xe_NoTerm_NoTerm => first | rfl | k_is); (case xe_NoValue_NoTerm => first | rfl | k_is); (case xe_NotFlat_NoTerm => first | rfl | k_is); (case xe_NoKind_NoTerm => first | rfl | k_is); (case xe_NoEdit_NoTerm => first | rfl | k_is); (case xe_NoRow_NoProgram => first | rfl | k_is); (case xe_NoText_NoProgram => first | rfl | k_is); (case xe_NoProgram_NoProgram => first | rfl | k_is); (case xe_NoTerm_NoProgram => first | rfl | k_is); (case xe_NoValue_NoProgram => first | rfl | k_is); (case xe_NotFlat_NoProgram => first | rfl | k_is); (case xe_NoKind_NoProgram => first | rfl | k_is); (case xe_NoEdit_NoProgram => first | rfl | k_is); (case xe_NoRow_NoText => first | rfl | k_is); (case xe_NoText_NoText => first | rfl | k_is); (case xe_NoProgram_NoText => first | rfl | k_is); (case xe_NoTerm_NoText => first | rfl | k_is); (case xe_NoValue_NoText => first | rfl | k_is); (case xe_NotFlat_NoText => first | rfl | k_is); (case xe_NoKind_NoText => first | rfl | k_is); (case xe_NoEdit_NoText => first | rfl | k_is); (case xe_NoRow_SideError => first | rfl | k_is); (case xe_NoText_SideError => first | rfl | k_is); (case xe_NoProgram_SideError => first | rfl | k_is); (case xe_NoTerm_SideError => first | rfl | k_is); (case xe_NoValue_SideError => first | rfl | k_is); (case xe_NotFlat_SideError => first | rfl | k_is); (case xe_NoKind_SideError => first | rfl | k_is); (case xe_NoEdit_SideError => first | rfl | k_is); (case xk_NoRow_NoText => kit_is); (case xk_NoText_NoText => kit_is); (case xk_NoProgram_NoText => kit_is); (case xk_NoTerm_NoText => kit_is); (case xk_NoValue_NoText => kit_is); (case xk_NotFlat_NoText => kit_is); (case xk_NoKind_NoText => kit_is); (case xk_NoEdit_NoText => kit_is); (case xk_NoRow_NoProgram => kit_is); (case xk_NoText_NoProgram => kit_is); (case xk_NoProgram_NoProgram => kit_is); (case xk_NoTerm_NoProgram => kit_is); (case xk_NoValue_NoProgram => kit_is); (case xk_NotFlat_NoProgram => kit_is); (case xk_NoKind_NoProgram => kit_is); (case xk_NoEdit_NoProgram => kit_is); (case xk_NoRow_NoTerm => kit_is); (case xk_NoText_NoTerm => kit_is); (case xk_NoProgram_NoTerm => kit_is); (case xk_NoTerm_NoTerm => kit_is); (case xk_NoValue_NoTerm => kit_is); (case xk_NotFlat_NoTerm => kit_is); (case xk_NoKind_NoTerm => kit_is); (case xk_NoEdit_NoTerm => kit_is); (case xk_NoRow_NoValue => kit_is); (case xk_NoText_NoValue => kit_is); (case xk_NoProgram_NoValue => kit_is); (case xk_NoTerm_NoValue => kit_is); (case xk_NoValue_NoValue => kit_is); (case xk_NotFlat_NoValue => kit_is); (case xk_NoKind_NoValue => kit_is); (case xk_NoEdit_NoValue => kit_is); (case xk_NoRow_NotFlat => kit_is); (case xk_NoText_NotFlat => kit_is); (case xk_NoProgram_NotFlat => kit_is); (case xk_NoTerm_NotFlat => kit_is); (case xk_NoValue_NotFlat => kit_is); (case xk_NotFlat_NotFlat => kit_is); (case xk_NoKind_NotFlat => kit_is); (case xk_NoEdit_NotFlat => kit_is); (case xk_NoRow_NoKind => kit_is); (case xk_NoText_NoKind => kit_is); (case xk_NoProgram_NoKind => kit_is); (case xk_NoTerm_NoKind => kit_is); (case xk_NoValue_NoKind => kit_is); (case xk_NotFlat_NoKind => kit_is); (case xk_NoKind_NoKind => kit_is); (case xk_NoEdit_NoKind => kit_is); (case xk_NoRow_NoEdit => kit_is); (case xk_NoText_NoEdit => kit_is); (case xk_NoProgram_NoEdit => kit_is); (case xk_NoTerm_NoEdit => kit_is); (case xk_NoValue_NoEdit => kit_is); (case xk_NotFlat_NoEdit => kit_is); (case xk_NoKind_NoEdit => kit_is); (case xk_NoEdit_NoEdit => kit_is); (case xk_NoRow_NoRow => kit_is); (case xk_NoText_NoRow => kit_is); (case xk_NoProgram_NoRow => kit_is); (case xk_NoTerm_NoRow => kit_is); (case xk_NoValue_NoRow => kit_is); (case xk_NotFlat_NoRow => kit_is); (case xk_NoKind_NoRow => kit_is); (case xk_NoEdit_NoRow => kit_is); (case xk_NoRow_ValueError => kit_is); (case xk_NoText_ValueError => kit_is); (case xk_NoProgram_ValueError => kit_is); (case xk_NoTerm_ValueError => kit_is); (case xk_NoValue_ValueError => kit_is); (case xk_NotFlat_ValueError => kit_is); (case xk_NoKind_ValueError => kit_is); (case xk_NoEdit_ValueError => kit_is); (case z_ValueError => k_is); (case z_all => k_is); (case z_isinstance => k_is); (case z_len => k_is); (case z_list => k_is); (case z_max => k_is); (case z_range => k_is); (case z_reversed => k_is)
