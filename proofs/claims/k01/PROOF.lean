import PyProof.Rows.All
import Wide.All
import OpenK.AllK
import Wide.FinOn
import PySem.Challenge.RW_keyspans_k01_keys_and_what_they_tell
import KE.RegKIsAll
import KE.RegKTryMore
import KE.RegKSuper
import KE.KExcLine
import HandS.ForMost
import HandS.Evl
import HandS.DictComp
import HandS.Flow
import HandS.Star
import HandS.IsInst
import HandS.CallSlots
import HandS.TupAny
import HandS.Style
import HandS.Deep
import HandS.FStr
import HandS.Property
import HandS.Wide
import HandS.Exc
import HandS.RaiseMore
import HandS.TryOnly
import HandS.ExcOwn
import HandS.WordsExc
import HandS.Defaults
import HandS.ExcSuper
import KE.KExcSuper
import KE.KExcInit
import HandS.ExcInit
import KE.KTryMore
import HandS.ExcField
import HandS.ExcIs
import HandS.Text
import HandS.DictEq
import HandS.Zip
import PyProof.InstNe
import HandS.Set
import HandS.Strs
import HandS.Walk
set_option Elab.async false
set_option linter.all false
set_option maxRecDepth 100000
set_option maxHeartbeats 4000000
/-! Dl1: data over the hand layer: what stands in the heap, said as plain data; expressions and statements as functions of data. -/
namespace Dl
open PySem L2 Evl

/-! ### data -/
inductive D where
  | non | bl (b : Bool) | int (i : Int) | str (s : Str)
  | lst (xs : List D) | tup (xs : List D)
  | dct (kvs : List (Key × D))
  | obj (c : Nat) (fs : List (Str × D))
  | exc (c : Nat) (fs : List (Str × D))
  | urn

/-- the urn's three numbers -/
structure U where
  a : Int
  b : Int
  c : Int

inductive Res (α : Type) where
  | ok (a : α) (u : U)
  | exc (c : Nat) (fs : List (Str × D)) (u : U)
  | no

abbrev M (α : Type) := U → Res α
def ret {α : Type} (a : α) : M α := fun u => .ok a u
def bnd {α β : Type} (m : M α) (f : α → M β) : M β := fun u => match m u with
  | .ok a u' => f a u'
  | .exc c fs u' => .exc c fs u'
  | .no => .no
def opt {α : Type} (o : Option α) : M α := fun u => match o with
  | some a => .ok a u
  | none => .no
def stuck {α : Type} : M α := fun _ => .no
theorem bnd_ret {α β : Type} (a : α) (f : α → M β) : bnd (ret a) f = f a := rfl
theorem bnd_ok {α β : Type} {m : M α} {u u' : U} {a : α} (h : m u = .ok a u') (f : α → M β) : bnd m f u = f a u' := by
  unfold bnd; rw [h]
theorem bnd_opt {α β : Type} (a : α) (f : α → M β) : bnd (opt (some a)) f = f a := rfl
theorem bnd_exc {α β : Type} {m : M α} {u u' : U} {c : Nat} {fs : List (Str × D)} (h : m u = .exc c fs u') (f : α → M β) : bnd m f u = .exc c fs u' := by
  unfold bnd; rw [h]

/-- an exception that was caught, at a: its class, its dict -/
def exV (cls : Value) (dd a : Addr) : HO := .ext fun h => ∃ (oe : Obj) (vs : Array Value), h.get? a = some oe ∧ Zc cls (some dd) oe ∧ oe.data = .fields vs
/-! ### what stands for which data -/
mutual
inductive Rep (K : PySem.W.Frag) (ct : Nat → Addr) (ua : Addr) (F : Hp) : V → D → Prop
  | non : Rep K ct ua F .non .non
  | bl (b : Bool) : Rep K ct ua F (.bl b) (.bl b)
  | int (i : Int) : Rep K ct ua F (.int i) (.int i)
  | str (x : Str) : Rep K ct ua F (.str x) (.str x)
  | lst {a : Addr} {vs : List V} {ds : List D} : F a = some (.lst vs) → Reps K ct ua F vs ds → Rep K ct ua F (.ref a) (.lst ds)
  | tup {a : Addr} {vs : List V} {ds : List D} : SqT K F a vs → Reps K ct ua F vs ds → Rep K ct ua F (.ref a) (.tup ds)
  | dct {a : Addr} {kvs : List (Key × V)} {kds : List (Key × D)} : F a = some (.dK kvs) → (kvs.map (·.1)).Nodup → kds.map (·.1) = kvs.map (·.1) → Reps K ct ua F (kvs.map (·.2)) (kds.map (·.2)) → Rep K ct ua F (.ref a) (.dct kds)
  | obj {a dx : Addr} {c : Nat} {fs : List (Str × V)} {gs : List (Str × D)} : F a = some (.ins (ct c) dx fs) → gs.map (·.1) = fs.map (·.1) → Reps K ct ua F (fs.map (·.2)) (gs.map (·.2)) → Rep K ct ua F (.ref a) (.obj c gs)
  | exc {a dd : Addr} {c : Nat} {fs : List (Str × V)} {gs : List (Str × D)} : F a = some (exV (.ref (ct c)) dd a) → F dd = some (.xd fs) → gs.map (·.1) = fs.map (·.1) → Reps K ct ua F (fs.map (·.2)) (gs.map (·.2)) → Rep K ct ua F (.ref a) (.exc c gs)
  | urn : Rep K ct ua F (.ref ua) .urn
inductive Reps (K : PySem.W.Frag) (ct : Nat → Addr) (ua : Addr) (F : Hp) : List V → List D → Prop
  | nil : Reps K ct ua F [] []
  | cons {v : V} {vs : List V} {d : D} {ds : List D} : Rep K ct ua F v d → Reps K ct ua F vs ds → Reps K ct ua F (v :: vs) (d :: ds)
end

section
variable {K : PySem.W.Frag} {ct : Nat → Addr} {ua : Addr} {F F' : Hp}
mutual
theorem Rep.mono (e : Ex F F') : ∀ {v : V} {d : D}, Rep K ct ua F v d → Rep K ct ua F' v d
  | _, _, .non => .non
  | _, _, .bl b => .bl b
  | _, _, .int i => .int i
  | _, _, .str x => .str x
  | _, _, .lst h hs => .lst (e _ _ h) (Reps.mono e hs)
  | _, _, .tup h hs => .tup (ex_t e h) (Reps.mono e hs)
  | _, _, .dct h n k hs => .dct (e _ _ h) n k (Reps.mono e hs)
  | _, _, .obj h k hs => .obj (e _ _ h) k (Reps.mono e hs)
  | _, _, .exc h1 h2 k hs => .exc (e _ _ h1) (e _ _ h2) k (Reps.mono e hs)
  | _, _, .urn => .urn
theorem Reps.mono (e : Ex F F') : ∀ {vs : List V} {ds : List D}, Reps K ct ua F vs ds → Reps K ct ua F' vs ds
  | _, _, .nil => .nil
  | _, _, .cons h hs => .cons (Rep.mono e h) (Reps.mono e hs)
end
theorem Reps.length : ∀ {vs : List V} {ds : List D}, Reps K ct ua F vs ds → vs.length = ds.length
  | _, _, .nil => rfl
  | _, _, .cons _ t => by rw [List.length_cons, List.length_cons, Reps.length t]
theorem Reps.get : ∀ {vs : List V} {ds : List D} {i : Nat} {v : V}, Reps K ct ua F vs ds → vs[i]? = some v → ∃ d, ds[i]? = some d ∧ Rep K ct ua F v d
  | _, _, _, _, .nil, e => by simp at e
  | _, _, 0, _, .cons r _, e => by simp at e; subst e; exact ⟨_, rfl, r⟩
  | _, _, i + 1, v, .cons _ t, e => by
    obtain ⟨d, h1, h2⟩ := Reps.get (i := i) (v := v) t (by simpa using e)
    exact ⟨d, by simpa using h1, h2⟩
theorem Reps.get' : ∀ {vs : List V} {ds : List D} {i : Nat} {d : D}, Reps K ct ua F vs ds → ds[i]? = some d → ∃ v, vs[i]? = some v ∧ Rep K ct ua F v d
  | _, _, _, _, .nil, e => by simp at e
  | _, _, 0, _, .cons r _, e => by simp at e; subst e; exact ⟨_, rfl, r⟩
  | _, _, i + 1, v, .cons _ t, e => by
    obtain ⟨d, h1, h2⟩ := Reps.get' (i := i) (d := v) t (by simpa using e)
    exact ⟨d, by simpa using h1, h2⟩
theorem Reps.append : ∀ {xs ys : List V} {us ws : List D}, Reps K ct ua F xs us → Reps K ct ua F ys ws → Reps K ct ua F (xs ++ ys) (us ++ ws)
  | _, _, _, _, .nil, s => s
  | _, _, _, _, .cons r t, s => .cons r (Reps.append t s)
theorem Reps.take : ∀ {xs : List V} {us : List D} (n : Nat), Reps K ct ua F xs us → Reps K ct ua F (xs.take n) (us.take n)
  | _, _, 0, _ => .nil
  | _, _, _ + 1, .nil => .nil
  | _, _, n + 1, .cons r t => .cons r (Reps.take n t)
theorem Reps.drop : ∀ {xs : List V} {us : List D} (n : Nat), Reps K ct ua F xs us → Reps K ct ua F (xs.drop n) (us.drop n)
  | _, _, 0, r => r
  | _, _, _ + 1, .nil => .nil
  | _, _, n + 1, .cons _ t => Reps.drop n t
theorem Reps.set {v : V} {d : D} (r : Rep K ct ua F v d) : ∀ {xs : List V} {us : List D} (i : Nat), Reps K ct ua F xs us → Reps K ct ua F (xs.set i v) (us.set i d)
  | _, _, _, .nil => .nil
  | _, _, 0, .cons _ t => .cons r t
  | _, _, i + 1, .cons q t => .cons q (Reps.set r i t)
theorem Reps.rev {xs : List V} {us : List D} (h : Reps K ct ua F xs us) : Reps K ct ua F xs.reverse us.reverse := by
  induction xs generalizing us with
  | nil => cases h; exact .nil
  | cons x xs ih => cases h with | cons r t => rw [List.reverse_cons, List.reverse_cons]; exact Reps.append (ih t) (.cons r .nil)
end

/-! ### the slots -/
inductive Slot where
  | no
  | val (d : D)
  | own (d : D)
abbrev En := List Slot

/-- the urn stands -/
def Urn (ua : Addr) (u : U) (H : Hp) : Prop := H ua = some (.lst [.int u.a, .int u.b, .int u.c])
/-- an object of one's own, not yet given away -/
def OwnAt (K : PySem.W.Frag) (ct : Nat → Addr) (ua : Addr) (F H : Hp) (a : Addr) : D → Prop
  | .lst ds => ∃ vs, H a = some (.lst vs) ∧ Reps K ct ua F vs ds
  | .dct kds => ∃ kvs, H a = some (.dK kvs) ∧ (kvs.map (·.1)).Nodup ∧ kds.map (·.1) = kvs.map (·.1) ∧ Reps K ct ua F (kvs.map (·.2)) (kds.map (·.2))
  | .obj c gs => ∃ dx fs, H a = some (.ins (ct c) dx fs) ∧ gs.map (·.1) = fs.map (·.1) ∧ Reps K ct ua F (fs.map (·.2)) (gs.map (·.2))
  | _ => False
theorem OwnAt.mono {K : PySem.W.Frag} {ct : Nat → Addr} {ua : Addr} {F F' H H' : Hp} {a : Addr} (e : Ex F F') (k : ∀ o, H a = some o → H' a = some o) : ∀ {d : D}, OwnAt K ct ua F H a d → OwnAt K ct ua F' H' a d
  | .lst _, ⟨vs, h, r⟩ => ⟨vs, k _ h, r.mono e⟩
  | .dct _, ⟨vs, h, n, q, r⟩ => ⟨vs, k _ h, n, q, r.mono e⟩
  | .obj _ _, ⟨dx, fs, h, q, r⟩ => ⟨dx, fs, k _ h, q, r.mono e⟩

/-- the heap, its part that stays, the urn -/
structure Bs (ua : Addr) (F : Hp) (u : U) (H : Hp) : Prop where
  ex : Ex F H
  urn : Urn ua u H
  fu : F ua = none
/-- how the slots and the heap stand for the data: F the part that stays -/
structure RE (K : PySem.W.Frag) (ct : Nat → Addr) (ua : Addr) (F : Hp) (ρ : En) (u : U) (σ : St) (H : Hp) : Prop extends Bs ua F u H where
  len : σ.length = ρ.length
  vals : ∀ (i : Nat) (d : D), ρ[i]? = some (.val d) → ∃ v, σ[i]? = some (some v) ∧ Rep K ct ua F v d
  owns : ∀ (i : Nat) (d : D), ρ[i]? = some (.own d) → ∃ a, σ[i]? = some (some (.ref a)) ∧ a ≠ ua ∧ F a = none ∧ OwnAt K ct ua F H a d

/-- a step of an expression -/
structure Stp (ua : Addr) (F H F' H' : Hp) : Prop where
  exF : Ex F F'
  exH : Ex F' H'
  nu : F' ua = none
  kp : ∀ b o, b ≠ ua → H b = some o → H' b = some o
  fr : ∀ b o, F' b = some o → F b = some o ∨ H b = none
section
variable {K : PySem.W.Frag} {ct : Nat → Addr} {ua : Addr} {F F1 F2 H H1 H2 : Hp} {ρ : En} {u u1 : U} {σ : St}
theorem Stp.refl (b : Bs ua F u H) : Stp ua F H F H := ⟨Ex.refl F, b.ex, b.fu, fun _ _ _ h => h, fun _ _ h => .inl h⟩
theorem Stp.trans (s : Stp ua F H F1 H1) (t : Stp ua F1 H1 F2 H2) : Stp ua F H F2 H2 := by
  refine ⟨s.exF.trans t.exF, t.exH, t.nu, fun b o n h => t.kp b o n (s.kp b o n h), fun b o h => ?_⟩
  rcases t.fr b o h with h1 | h1
  · exact s.fr b o h1
  · by_cases e : b = ua
    · rw [e, t.nu] at h; cases h
    · cases q : H b with
      | none => exact .inr rfl
      | some w => rw [s.kp b w e q] at h1; cases h1
theorem Stp.bs (s : Stp ua F H F1 H1) (h : Urn ua u1 H1) : Bs ua F1 u1 H1 := ⟨s.exH, h, s.nu⟩
theorem Stp.new {p : Addr} {o : HO} (b : Bs ua F u H) (hp : H p = none) : Stp ua F H (upd F p o) (upd H p o) := by
  have fp : F p = none := fresh_back b.ex hp
  have np : ua ≠ p := ne_of_none b.urn hp
  refine ⟨Ex.new fp, fun a w h => ?_, ?_, fun a w _ h => ?_, fun a w h => ?_⟩
  · by_cases e : a = p
    · rw [e, upd_same] at h; rw [e, upd_same]; exact h
    · rw [upd_ne e] at h; rw [upd_ne e]; exact b.ex a w h
  · rw [upd_ne np]; exact b.fu
  · rw [upd_ne (ne_of_none h hp)]; exact h
  · by_cases e : a = p
    · rw [e]; exact .inr hp
    · rw [upd_ne e] at h; exact .inl h
theorem Bs.new {p : Addr} {o : HO} (b : Bs ua F u H) (hp : H p = none) : Bs ua (upd F p o) u (upd H p o) :=
  (Stp.new (o := o) b hp).bs (by show upd H p o ua = _; rw [upd_ne (ne_of_none b.urn hp)]; exact b.urn)
/-- the heap alone has grown (by what nobody knows), or the frozen part is as it was -/
theorem Stp.skip (b : Bs ua F u H) (e : Ex F H1) (kp : ∀ b o, b ≠ ua → H b = some o → H1 b = some o) : Stp ua F H F H1 := ⟨Ex.refl F, e, b.fu, kp, fun _ _ h => .inl h⟩
theorem RE.step (R : RE K ct ua F ρ u σ H) (s : Stp ua F H F1 H1) (h : Urn ua u1 H1) : RE K ct ua F1 ρ u1 σ H1 where
  toBs := s.bs h
  len := R.len
  vals := fun i d e => by
    obtain ⟨v, h1, h2⟩ := R.vals i d e
    exact ⟨v, h1, h2.mono s.exF⟩
  owns := fun i d e => by
    obtain ⟨a, h1, h2, h3, h4⟩ := R.owns i d e
    refine ⟨a, h1, h2, ?_, h4.mono s.exF fun o q => s.kp a o h2 q⟩
    cases q : F1 a with
    | none => rfl
    | some o =>
      rcases s.fr a o q with z | z
      · rw [h3] at z; cases z
      · cases d <;> first
          | exact (show False from h4).elim
          | (obtain ⟨_, z2, _⟩ := h4; rw [z] at z2; cases z2)
          | (obtain ⟨_, _, z2, _⟩ := h4; rw [z] at z2; cases z2)
end

/-! ### outcomes -/
/-- which exception stands there: its class, its own dict -/
def out {α β : Type} (K : PySem.W.Frag) (ct : Nat → Addr) (rel : Addr → Hp → β → α → Prop) (ua : Addr) (F H : Hp) (E : XK) (r : Res α) (Q : β → Hp → Prop) : Prop := match r with
  | .ok d u' => ∀ F' v H', Stp ua F H F' H' → Urn ua u' H' → rel ua F' v d → Q v H'
  | .exc c gs u' => ∀ F' H' dd fs, Stp ua F H F' H' → Urn ua u' H' → H' dd = some (.xd fs) → H dd = none → F' dd = none → gs.map (·.1) = fs.map (·.1) → Reps K ct ua F' (fs.map (·.2)) (gs.map (·.2)) → E (.ref (ct c)) (some dd) H'
  | .no => False
section
variable {α β γ δ : Type} {K : PySem.W.Frag} {ct : Nat → Addr} {rel : Addr → Hp → β → α → Prop} {rel' : Addr → Hp → δ → γ → Prop} {ua : Addr} {F F1 H H1 : Hp} {E : XK} {Q : β → Hp → Prop} {u u1 : U} {ρ : En} {σ : St}
theorem back_none (s : Stp ua F H F1 H1) (hu : Urn ua u1 H1) {p : Addr} (h : H1 p = none) (hu0 : Urn ua u H) : H p = none := by
  cases q : H p with
  | none => rfl
  | some o =>
    by_cases e : p = ua
    · rw [e, hu] at h; cases h
    · rw [s.kp p o e q] at h; cases h
theorem out.mono {r : Res α} (b : Bs ua F u H) (h : out K ct rel ua F H E r Q) (s : Stp ua F H F1 H1) (hu : Urn ua u1 H1) : out K ct rel ua F1 H1 E r Q := by
  cases r with
  | ok d u' => exact fun F' v H' t hu' r => h F' v H' (s.trans t) hu' r
  | exc c gs u' => exact fun F' H' dd fs t hu' hd h0 hf k r => h F' H' dd fs (s.trans t) hu' hd (back_none s hu h0 b.urn) hf k r
  | no => exact h
theorem out.ret {d : α} {v : β} (b : Bs ua F u H) (h : out K ct rel ua F H E (ret d u) Q) (r : rel ua F v d) : Q v H := h F v H (Stp.refl b) b.urn r
theorem out.new {d : α} {v : β} {p : Addr} {o : HO} (b : Bs ua F u H) (h : out K ct rel ua F H E (Dl.ret d u) Q) (hp : H p = none) (r : rel ua (upd F p o) v d) : Q v (upd H p o) :=
  h (upd F p o) v (upd H p o) (Stp.new b hp) (Bs.new b hp).urn r
/-- an expression, a test, arguments: f of the slots' data -/
def tG (K : PySem.W.Frag) (ct : Nat → Addr) (rel : Addr → Hp → β → α → Prop) (E : St → XK) (f : En → M α) : St → Hp → (β → Hp → Prop) → Prop := fun σ H Q =>
  ∃ ua F ρ u, RE K ct ua F ρ u σ H ∧ out K ct rel ua F H (E σ) (f ρ u) Q
theorem tG_bind {E : St → XK} {f : En → M α} {g : α → M γ} {Q : δ → Hp → Prop} {Q1 : β → Hp → Prop} (R : RE K ct ua F ρ u σ H) (h : out K ct rel' ua F H (E σ) (bnd (f ρ) g u) Q)
    (k : ∀ F1 v H1 x u1, Stp ua F H F1 H1 → RE K ct ua F1 ρ u1 σ H1 → rel ua F1 v x → out K ct rel' ua F1 H1 (E σ) (g x u1) Q → Q1 v H1) : tG K ct rel E f σ H Q1 := by
  refine ⟨ua, F, ρ, u, R, ?_⟩
  unfold bnd at h
  cases e : f ρ u with
  | ok x u1 =>
    rw [e] at h
    exact fun F1 v H1 s hu r => k F1 v H1 x u1 s (R.step s hu) r (h.mono R.toBs s hu)
  | exc c gs u1 =>
    rw [e] at h
    exact h
  | no =>
    rw [e] at h
    exact h
theorem out_opt {o : Option α} {P : Prop} (h : out K ct rel ua F H E (opt o u) Q) (k : ∀ d, o = some d → out K ct rel ua F H E (ret d u) Q → P) : P := by
  cases o with
  | none => exact (show False from h).elim
  | some d => exact k d rfl h
end
/-- the three relations -/
abbrev rD (K : PySem.W.Frag) (ct : Nat → Addr) : Addr → Hp → V → D → Prop := fun ua F v d => Rep K ct ua F v d
abbrev rA (K : PySem.W.Frag) (ct : Nat → Addr) : Addr → Hp → List V → List D → Prop := fun ua F v d => Reps K ct ua F v d
abbrev rB : Addr → Hp → Bool → Bool → Prop := fun _ _ b c => b = c
abbrev DE := En → M D
abbrev DA := En → M (List D)
abbrev DB := En → M Bool

def PD (X : Cx) (ct : Nat → Addr) (E : St → XK) (e : Expr) (f : DE) : Prop := PE X e (tG X.K ct (rD X.K ct) E f)
def PDA (X : Cx) (ct : Nat → Addr) (E : St → XK) (es : List Expr) (f : DA) : Prop := PA X es (tG X.K ct (rA X.K ct) E f)
def PDB (X : Cx) (ct : Nat → Addr) (E : St → XK) (e : Expr) (f : DB) : Prop := PT X e (tG X.K ct rB E f)
theorem PE.imp {X : Cx} {e : Expr} {t t' : TE} (h : PE X e t) (k : ∀ σ H Q, t' σ H Q → t σ H Q) : PE X e t' := ⟨fun pins s σ H Q I q => h.run pins s σ H Q I (k σ H Q q)⟩
theorem PT.imp {X : Cx} {e : Expr} {t t' : TT} (h : PT X e t) (k : ∀ σ H Q, t' σ H Q → t σ H Q) : PT X e t' := ⟨fun pins s σ H Q I q => h.run pins s σ H Q I (k σ H Q q)⟩
theorem PA.imp {X : Cx} {es : List Expr} {t t' : TA} (h : PA X es t) (k : ∀ σ H Q, t' σ H Q → t σ H Q) : PA X es t' := ⟨fun pos pins s σ H Q I q => h.run pos pins s σ H Q I (k σ H Q q)⟩

/-! ### names, constants, displays -/
section
variable {X : Cx} {ct : Nat → Addr} {E : St → XK}
def getV (ρ : En) (i : Nat) : Option D := match ρ[i]? with
  | some (.val d) => some d
  | _ => none
theorem getV_some {ρ : En} {i : Nat} {d : D} (h : getV ρ i = some d) : ρ[i]? = some (.val d) := by
  unfold getV at h
  cases e : ρ[i]? with
  | none => rw [e] at h; cases h
  | some s =>
    rw [e] at h
    cases s with
    | no => cases h
    | val x => cases h; rfl
    | own x => cases h
def dVar (i : Nat) : DE := fun ρ => opt (getV ρ i)
def dC (d : D) : DE := fun _ => ret d
theorem pd_var {e : Expr} {i : Nat} (h : PE X e (tVar i)) : PD X ct E e (dVar i) := by
  refine PE.imp h fun σ H Q ⟨ua, F, ρ, u, R, q⟩ => ?_
  refine out_opt q fun d hd q => ?_
  obtain ⟨v, h1, h2⟩ := R.vals i d (getV_some hd)
  exact ⟨v, h1, out.ret R.toBs q h2⟩
theorem pd_c {e : Expr} {v : V} {d : D} (h : PE X e (tC v)) (r : ∀ ua F, Rep X.K ct ua F v d) : PD X ct E e (dC d) :=
  PE.imp h fun σ H Q ⟨ua, F, ρ, u, R, q⟩ => out.ret R.toBs q (r ua F)
theorem pd_int {i : Int} {j pos} : PD X ct E (.Constant (.int i) j pos) (dC (.int i)) := pd_c pe_int fun _ _ => .int i
theorem pd_bl {b j pos} : PD X ct E (.Constant (.bool b) j pos) (dC (.bl b)) := pd_c pe_bl fun _ _ => .bl b
theorem pd_non {j pos} : PD X ct E (.Constant .none j pos) (dC .non) := pd_c pe_non fun _ _ => .non
theorem pd_str {x j pos} : PD X ct E (.Constant (.str x) j pos) (dC (.str x)) := pd_c pe_str fun _ _ => .str x
/-- a module's int or text -/
theorem pd_gstr {n x : Str} {t : Tok} {pos : Pos} (hg : Gl X n) (hm : X.mg n = some (.str x t)) (hd : (n == ("__debug__" : Str)) = false := by decide) : PD X ct E (.Name n pos) (dC (.str x)) := pd_c (pe_glob (v := .str x) hg hm ⟨t, rfl⟩ hd) fun _ _ => .str x
theorem pd_gint {n : Str} {x : Int} {t : Tok} {pos : Pos} (hg : Gl X n) (hm : X.mg n = some (.int x t)) (hd : (n == ("__debug__" : Str)) = false := by decide) : PD X ct E (.Name n pos) (dC (.int x)) := pd_c (pe_glob (v := .int x) hg hm ⟨t, rfl⟩ hd) fun _ _ => .int x

def dNil : DA := fun _ => ret []
def dCons (f : DE) (g : DA) : DA := fun ρ => bnd (f ρ) fun x => bnd (g ρ) fun xs => ret (x :: xs)
theorem pda_nil : PDA X ct E [] dNil := PA.imp pa_nil fun σ H Q ⟨ua, F, ρ, u, R, q⟩ => out.ret R.toBs q .nil
theorem pda_cons {e : Expr} {es : List Expr} {f : DE} {g : DA} (he : PD X ct E e f) (hs : PDA X ct E es g) (hst : starEach (e :: es) X.env = (false, eval e X.env) :: starEach es X.env := by rfl) : PDA X ct E (e :: es) (dCons f g) := by
  refine PA.imp (pa_cons he hs hst) fun σ H Q ⟨ua, F, ρ, u, R, q⟩ => ?_
  refine tG_bind R q fun F1 v H1 x u1 s1 R1 r1 q1 => ?_
  refine tG_bind R1 q1 fun F2 vs H2 xs u2 s2 R2 r2 q2 => ?_
  exact out.ret R2.toBs q2 (.cons (r1.mono s2.exF) r2)
def small (n : Nat) : Bool := decide (n ≤ 100000)
theorem small_line {n : Nat} (h : small n = true) : n ≤ sizeLine := sz_of (of_decide_eq_true h)
def chk {α : Type} (b : Bool) (a : α) : Option α := if b = true then some a else none
theorem chk_some {α : Type} {b : Bool} {a d : α} (h : chk b a = some d) : b = true ∧ d = a := by
  unfold chk at h
  split at h
  · rename_i hb; exact ⟨hb, (Option.some.inj h).symm⟩
  · cases h
def dTup (g : DA) : DE := fun ρ => bnd (g ρ) fun xs => opt (chk (small xs.length) (.tup xs))
def dLst (g : DA) : DE := fun ρ => bnd (g ρ) fun xs => opt (chk (small xs.length) (.lst xs))
theorem pd_tup {es : List Expr} {g : DA} {k : Nat} {pos : Pos} (h : PDA X ct E es g) : PD X ct E (.Tuple es k pos) (dTup g) := by
  refine PE.imp (pe_tup h) fun σ H Q ⟨ua, F, ρ, u, R, q⟩ => ?_
  refine tG_bind R q fun F1 vs H1 xs u1 s1 R1 r1 q1 => ?_
  refine out_opt q1 fun d hd q2 => ?_
  obtain ⟨hs, rfl⟩ := chk_some hd
  refine ⟨by rw [r1.length]; exact small_line hs, fun p hp => out.new R1.toBs q2 hp (.tup (st_of upd_same) (r1.mono (Ex.new (fresh_back R1.ex hp))))⟩
theorem pd_lst {es : List Expr} {g : DA} {pos : Pos} (h : PDA X ct E es g) : PD X ct E (.List es pos) (dLst g) := by
  refine PE.imp (pe_lst h) fun σ H Q ⟨ua, F, ρ, u, R, q⟩ => ?_
  refine tG_bind R q fun F1 vs H1 xs u1 s1 R1 r1 q1 => ?_
  refine out_opt q1 fun d hd q2 => ?_
  obtain ⟨hs, rfl⟩ := chk_some hd
  refine ⟨by rw [r1.length]; exact small_line hs, fun p hp => out.new R1.toBs q2 hp (.lst upd_same (r1.mono (Ex.new (fresh_back R1.ex hp))))⟩
end

/-! ### operators by values -/
/-- a reading on values does what o says of the data -/
def ROp (K : PySem.W.Frag) (ct : Nat → Addr) (r : R2) (o : D → D → Option D) : Prop := ∀ (ua : Addr) (F H : Hp) (u : U) (E : XK) (v w : V) (x y : D) (Q : VK), Bs ua F u H → Rep K ct ua F v x → Rep K ct ua F w y →
  out K ct (rD K ct) ua F H E (opt (o x y) u) Q → r v w H Q
section
variable {X : Cx} {ct : Nat → Addr} {E : St → XK}
def dOp (o : D → D → Option D) (f g : DE) : DE := fun ρ => bnd (f ρ) fun x => bnd (g ρ) fun y => opt (o x y)
theorem tOp_of {r : R2} {o : D → D → Option D} {f g : DE} (ho : ROp X.K ct r o) : ∀ σ H Q, tG X.K ct (rD X.K ct) E (dOp o f g) σ H Q → tOp r (tG X.K ct (rD X.K ct) E f) (tG X.K ct (rD X.K ct) E g) σ H Q := by
  rintro σ H Q ⟨ua, F, ρ, u, R, q⟩
  refine tG_bind R q fun F1 v H1 x u1 s1 R1 r1 q1 => ?_
  refine tG_bind R1 q1 fun F2 w H2 y u2 s2 R2 r2 q2 => ?_
  exact ho ua F2 H2 u2 (E σ) v w x y Q R2.toBs (r1.mono s2.exF) r2 q2
theorem pd_op {op : Operator} {a b : Expr} {pos : Pos} {r : R2} {o : D → D → Option D} {f g : DE} (hr : OpR X (binaryOp op) r) (ho : ROp X.K ct r o) (ha : PD X ct E a f) (hb : PD X ct E b g) : PD X ct E (.BinOp a op b pos) (dOp o f g) :=
  PE.imp (pe_op hr ha hb) (tOp_of ho)
theorem pd_cmp {op : CmpOp} {a b : Expr} {pos : Pos} {r : R2} {o : D → D → Option D} {f g : DE} (hr : OpR X (compareOp op) r) (ho : ROp X.K ct r o) (ha : PD X ct E a f) (hb : PD X ct E b g) (hm : behindInMarks op b = false) : PD X ct E (.Compare a [op] [b] pos) (dOp o f g) :=
  PE.imp (pe_cmpR hr ha hb hm) (tOp_of ho)
/-- a value that is a bool, as a test -/
def dTst (f : DE) : DB := fun ρ => bnd (f ρ) fun x => opt (match x with | .bl b => some b | _ => none)
theorem tB_of {f : DE} : ∀ σ H Q, tG X.K ct rB E (dTst f) σ H Q → tTest (tG X.K ct (rD X.K ct) E f) σ H Q := by
  rintro σ H Q ⟨ua, F, ρ, u, R, q⟩
  refine tG_bind R q fun F1 v H1 x u1 s1 R1 r1 q1 => ?_
  refine out_opt q1 fun b hb q2 => ?_
  cases x <;> simp at hb
  rename_i k
  subst hb
  cases r1
  exact ⟨k, rfl, out.ret R1.toBs q2 rfl⟩
theorem pdb_cmp {op : CmpOp} {a b : Expr} {pos : Pos} {r : R2} {o : D → D → Option D} {f g : DE} (hr : OpR X (compareOp op) r) (ho : ROp X.K ct r o) (ha : PD X ct E a f) (hb : PD X ct E b g) (hm : behindInMarks op b = false) : PDB X ct E (.Compare a [op] [b] pos) (dTst (dOp o f g)) := by
  refine PT.imp (pt_cmpR hr ha hb hm) fun σ H Q h => ?_
  obtain ⟨ua, F, ρ, u, R, q⟩ := h
  have q := tB_of (X := X) (ct := ct) (E := E) (f := dOp o f g) σ H Q ⟨ua, F, ρ, u, R, q⟩
  obtain ⟨ua, F, ρ, u, R, q⟩ := q
  exact tOp_of ho σ H _ ⟨ua, F, ρ, u, R, q⟩
/-- a value's truth -/
def tru : D → Option Bool
  | .non => some false
  | .bl b => some b
  | .int i => some (i != 0)
  | .str y => if small y.length = true then some ((y.length : Int) != 0) else none
  | .lst xs => some (!xs.isEmpty)
  | .tup xs => some (!xs.isEmpty)
  | .dct kvs => some (!kvs.isEmpty)
  | _ => none
theorem Reps.empty {K : PySem.W.Frag} {ua : Addr} {F : Hp} {vs : List V} {ds : List D} (r : Reps K ct ua F vs ds) : (!vs.isEmpty) = !ds.isEmpty := by cases r <;> rfl
theorem tru_V {K : PySem.W.Frag} {ua : Addr} {F H : Hp} {u : U} {v : V} {x : D} {k : Bool} (b : Bs ua F u H) (r : Rep K ct ua F v x) (h : tru x = some k) : TruV K v H k := by
  cases r with
  | non => exact (Option.some.inj h).symm
  | bl c => exact (Option.some.inj h).symm
  | int i => exact (Option.some.inj h).symm
  | str y =>
    have h : (if small y.length = true then some ((y.length : Int) != 0) else none) = some k := h
    split at h
    · rename_i hs; exact ⟨small_line hs, (Option.some.inj h).symm⟩
    · cases h
  | lst h1 h2 => exact .inl ⟨_, sq_of (b.ex _ _ h1), by rw [h2.empty]; exact (Option.some.inj h).symm⟩
  | tup h1 h2 => exact .inr (.inl ⟨_, ex_t b.ex h1, by rw [h2.empty]; exact (Option.some.inj h).symm⟩)
  | dct h1 h2 h3 h4 =>
    refine .inr (.inr ⟨_, b.ex _ _ h1, ?_⟩)
    rename_i kvs kds
    have e : kvs.isEmpty = kds.isEmpty := by
      cases kvs <;> cases kds <;> simp_all
    rw [e]; exact (Option.some.inj h).symm
  | obj _ _ _ => cases h
  | exc _ _ _ _ => cases h
  | urn => cases h
def dTru (f : DE) : DB := fun ρ => bnd (f ρ) fun x => opt (tru x)
theorem pdb_truth {a : Expr} {f : DE} (ha : PD X ct E a f) (he : ∀ whole, isTrue a X.env whole = (do let v ← whole; standAt a.pos; holding [v] (truthy v)) := by intro _; rfl) : PDB X ct E a (dTru f) := by
  refine PT.imp (pt_truth ha he) fun σ H Q ⟨ua, F, ρ, u, R, q⟩ => ?_
  refine tG_bind R q fun F1 v H1 x u1 s1 R1 r1 q1 => ?_
  refine out_opt q1 fun b hb q2 => ?_
  exact ⟨b, tru_V R1.toBs r1 hb, out.ret R1.toBs q2 rfl⟩
/-! and, or, not -/
def dAndB (f g : DB) : DB := fun ρ => bnd (f ρ) fun x => if x = true then g ρ else ret false
def dOrB (f g : DB) : DB := fun ρ => bnd (f ρ) fun x => if x = true then ret true else g ρ
def dNotB (f : DB) : DB := fun ρ => bnd (f ρ) fun x => ret (!x)
def PDW (X : Cx) (ct : Nat → Addr) (E : St → XK) (e : Expr) (f : DB) : Prop := PW X e (tG X.K ct rB E f)
theorem PDW.b {e : Expr} {f : DB} (h : PDW X ct E e f) : PDB X ct E e f := PW.pt h
theorem PW.imp {X : Cx} {e : Expr} {t t' : TT} (h : PW X e t) (k : ∀ σ H Q, t' σ H Q → t σ H Q) : PW X e t' := ⟨fun wh pins s σ H Q I q => h.run wh pins s σ H Q I (k σ H Q q)⟩
theorem pdw_and1 {a : Expr} {f : DB} {pos : Pos} (h : PDB X ct E a f) : PDW X ct E (.BoolOp .And [a] pos) f := pw_and1 h
theorem pdw_or1 {a : Expr} {f : DB} {pos : Pos} (h : PDB X ct E a f) : PDW X ct E (.BoolOp .Or [a] pos) f := pw_or1 h
theorem tG_here {α β : Type} {rel : Addr → Hp → β → α → Prop} {f : En → M α} {ua : Addr} {F H : Hp} {ρ : En} {u : U} {σ : St} {Q : β → Hp → Prop} {K : PySem.W.Frag} (R : RE K ct ua F ρ u σ H) (q : out K ct rel ua F H (E σ) (f ρ u) Q) : tG K ct rel E f σ H Q := ⟨ua, F, ρ, u, R, q⟩
theorem pdw_and {a b : Expr} {rest : List Expr} {f g : DB} {pos : Pos} (ha : PDB X ct E a f) (hb : PDW X ct E (.BoolOp .And (b :: rest) pos) g) : PDW X ct E (.BoolOp .And (a :: b :: rest) pos) (dAndB f g) := by
  refine PW.imp (pw_and ha hb) fun σ H Q ⟨ua, F, ρ, u, R, q⟩ => ?_
  refine tG_bind R q fun F1 v H1 x u1 s1 R1 r1 q1 => ?_
  subst r1
  cases v with
  | true => exact tG_here R1 q1
  | false => exact out.ret R1.toBs q1 rfl
theorem pdw_or {a b : Expr} {rest : List Expr} {f g : DB} {pos : Pos} (ha : PDB X ct E a f) (hb : PDW X ct E (.BoolOp .Or (b :: rest) pos) g) : PDW X ct E (.BoolOp .Or (a :: b :: rest) pos) (dOrB f g) := by
  refine PW.imp (pw_or ha hb) fun σ H Q ⟨ua, F, ρ, u, R, q⟩ => ?_
  refine tG_bind R q fun F1 v H1 x u1 s1 R1 r1 q1 => ?_
  subst r1
  cases v with
  | true => exact out.ret R1.toBs q1 rfl
  | false => exact tG_here R1 q1
theorem pdb_not {a : Expr} {f : DB} {pos : Pos} (h : PDB X ct E a f) : PDB X ct E (.UnaryOp .Not a pos) (dNotB f) := by
  refine PT.imp (pt_not h) fun σ H Q ⟨ua, F, ρ, u, R, q⟩ => ?_
  refine tG_bind R q fun F1 v H1 x u1 s1 R1 r1 q1 => ?_
  exact out.ret R1.toBs q1 (by rw [show v = x from r1])
/-- .. as values, of bools -/
def dB (f : DB) : DE := fun ρ => bnd (f ρ) fun x => ret (.bl x)
def dAndV (f g : DE) : DE := fun ρ => bnd (f ρ) fun x => match x with
  | .bl true => g ρ
  | .bl false => ret (.bl false)
  | _ => stuck
def dOrV (f g : DE) : DE := fun ρ => bnd (f ρ) fun x => match x with
  | .bl true => ret (.bl true)
  | .bl false => g ρ
  | _ => stuck
def dNotV (f : DE) : DE := fun ρ => bnd (f ρ) fun x => match x with
  | .bl b => ret (.bl (!b))
  | _ => stuck
theorem pd_one {op} {a : Expr} {f : DE} {pos : Pos} (h : PD X ct E a f) : PD X ct E (.BoolOp op [a] pos) f := pe_one h
theorem pd_and {a b : Expr} {rest : List Expr} {f g : DE} {pos : Pos} (ha : PD X ct E a f) (hb : PD X ct E (.BoolOp .And (b :: rest) pos) g) : PD X ct E (.BoolOp .And (a :: b :: rest) pos) (dAndV f g) := by
  refine PE.imp (pe_and ha hb) fun σ H Q ⟨ua, F, ρ, u, R, q⟩ => ?_
  refine tG_bind R q fun F1 v H1 x u1 s1 R1 r1 q1 => ?_
  cases r1 <;> first | exact (show False from q1).elim | skip
  rename_i b
  refine ⟨b, rfl, ?_⟩
  cases b with
  | true => exact tG_here R1 q1
  | false => exact out.ret R1.toBs q1 (.bl false)
theorem pd_or {a b : Expr} {rest : List Expr} {f g : DE} {pos : Pos} (ha : PD X ct E a f) (hb : PD X ct E (.BoolOp .Or (b :: rest) pos) g) : PD X ct E (.BoolOp .Or (a :: b :: rest) pos) (dOrV f g) := by
  refine PE.imp (pe_or ha hb) fun σ H Q ⟨ua, F, ρ, u, R, q⟩ => ?_
  refine tG_bind R q fun F1 v H1 x u1 s1 R1 r1 q1 => ?_
  cases r1 <;> first | exact (show False from q1).elim | skip
  rename_i b
  refine ⟨b, rfl, ?_⟩
  cases b with
  | true => exact out.ret R1.toBs q1 (.bl true)
  | false => exact tG_here R1 q1
theorem pd_not {a : Expr} {f : DE} {pos : Pos} (h : PD X ct E a f) : PD X ct E (.UnaryOp .Not a pos) (dNotV f) := by
  refine PE.imp (pe_not h) fun σ H Q ⟨ua, F, ρ, u, R, q⟩ => ?_
  refine tG_bind R q fun F1 v H1 x u1 s1 R1 r1 q1 => ?_
  cases r1 <;> first | exact (show False from q1).elim | skip
  rename_i b
  exact ⟨b, rfl, out.ret R1.toBs q1 (.bl _)⟩
def dIf (t : DB) (f g : DE) : DE := fun ρ => bnd (t ρ) fun x => if x = true then f ρ else g ρ
theorem pd_if {c a b : Expr} {t : DB} {f g : DE} {pos : Pos} (hc : PDB X ct E c t) (ha : PD X ct E a f) (hb : PD X ct E b g) : PD X ct E (.IfExp c a b pos) (dIf t f g) := by
  refine PE.imp (pe_ifExp hc ha hb) fun σ H Q ⟨ua, F, ρ, u, R, q⟩ => ?_
  refine tG_bind R q fun F1 v H1 x u1 s1 R1 r1 q1 => ?_
  subst r1
  cases v with
  | true => exact tG_here R1 q1
  | false => exact tG_here R1 q1
end
end Dl
set_option Elab.async false
set_option linter.all false
set_option maxRecDepth 100000
set_option maxHeartbeats 4000000
/-! Dl2: operators, subscripts, slices, built-in calls over data. -/
namespace Dl
open PySem L2 Evl

section
variable {X : Cx} {ct : Nat → Addr} {K : PySem.W.Frag}
abbrev rOr (r r' : R2) : R2 := fun x y H Q => r x y H Q ∨ r' x y H Q
abbrev rAddS : R2 := fun x y H Q => ∃ i j, x = .str i ∧ y = .str j ∧ i.length + j.length ≤ sizeLine ∧ Q (.str (i ++ j)) H
abbrev rAddX (K : PySem.W.Frag) : R2 := rOr (rI0 fun i j => .int (i + j)) (rOr rAddS (rOr rCat (rCatA K)))
abbrev rMulX : R2 := rOr (rI CMul fun i j => .int (i * j)) rRep
theorem ROp.or {r r' : R2} {o o' : D → D → Option D} (h : ROp K ct r o) (h' : ROp K ct r' o') : ROp K ct (rOr r r') (fun x y => (o x y).or (o' x y)) := by
  intro ua F H u E v w x y Q b r1 r2 q
  cases e : o x y with
  | some d => exact .inl (h ua F H u E v w x y Q b r1 r2 (by simpa [e] using q))
  | none => exact .inr (h' ua F H u E v w x y Q b r1 r2 (by simpa [e] using q))
/-! ints -/
def oI (f : Int → Int → Option D) : D → D → Option D
  | .int i, .int j => f i j
  | _, _ => none
theorem rop_I0 {g : Int → Int → V} {f : Int → Int → D} (h : ∀ (ua : Addr) (F : Hp) i j, Rep K ct ua F (g i j) (f i j)) : ROp K ct (rI0 g) (oI fun i j => some (f i j)) := by
  intro ua F H u E v w x y Q b r1 r2 q
  cases r1 <;> first | exact (show False from q).elim | skip
  rename_i i
  cases r2 <;> first | exact (show False from q).elim | skip
  rename_i j
  exact ⟨i, j, rfl, rfl, out.ret b q (h ua F i j)⟩
theorem rop_I {C : Int → Int → Prop} {g : Int → Int → V} {f : Int → Int → D} {c : Int → Int → Bool} (hc : ∀ i j, c i j = true → C i j) (h : ∀ (ua : Addr) (F : Hp) i j, Rep K ct ua F (g i j) (f i j)) : ROp K ct (rI C g) (oI fun i j => chk (c i j) (f i j)) := by
  intro ua F H u E v w x y Q b r1 r2 q
  cases r1 <;> first | exact (show False from q).elim | skip
  rename_i i
  cases r2 <;> first | exact (show False from q).elim | skip
  rename_i j
  refine out_opt q fun d hd q2 => ?_
  obtain ⟨h1, rfl⟩ := chk_some hd
  exact ⟨i, j, rfl, rfl, hc i j h1, out.ret b q2 (h ua F i j)⟩
def oAddS : D → D → Option D
  | .str a, .str b => chk (small (a.length + b.length)) (.str (a ++ b))
  | _, _ => none
theorem rop_addS : ROp K ct rAddS oAddS := by
  intro ua F H u E v w x y Q b r1 r2 q
  cases r1 <;> first | exact (show False from q).elim | skip
  rename_i i
  cases r2 <;> first | exact (show False from q).elim | skip
  rename_i j
  refine out_opt q fun d hd q2 => ?_
  obtain ⟨h1, rfl⟩ := chk_some hd
  exact ⟨i, j, rfl, rfl, small_line h1, out.ret b q2 (.str _)⟩
def oAddL : D → D → Option D
  | .lst a, .lst b => chk (small (a.length + b.length)) (.lst (a ++ b))
  | _, _ => none
theorem rop_addL : ROp K ct rCat oAddL := by
  intro ua F H u E v w x y Q b r1 r2 q
  cases r1 <;> first | exact (show False from q).elim | skip
  rename_i a vs ds h1 h2
  cases r2 <;> first | exact (show False from q).elim | skip
  rename_i a' vs' ds' h1' h2'
  refine out_opt q fun d hd q2 => ?_
  obtain ⟨hs, rfl⟩ := chk_some hd
  refine ⟨a, a', vs, vs', rfl, rfl, b.ex _ _ h1, b.ex _ _ h1', by rw [h2.length, h2'.length]; exact small_line hs, fun p hp => ?_⟩
  have e : Ex F (upd F p (.lst (vs ++ vs'))) := Ex.new (fresh_back b.ex hp)
  exact out.new b q2 hp (.lst upd_same ((h2.mono e).append (h2'.mono e)))
def oAddT : D → D → Option D
  | .tup a, .tup b => chk (small (a.length + b.length)) (.tup (a ++ b))
  | _, _ => none
theorem rop_addT : ROp K ct (rCatA K) oAddT := by
  intro ua F H u E v w x y Q b r1 r2 q
  cases r1 <;> first | exact (show False from q).elim | skip
  rename_i a vs ds h1 h2
  cases r2 <;> first | exact (show False from q).elim | skip
  rename_i a' vs' ds' h1' h2'
  refine out_opt q fun d hd q2 => ?_
  obtain ⟨hs, rfl⟩ := chk_some hd
  refine ⟨a, a', vs, vs', rfl, rfl, ex_t b.ex h1, ex_t b.ex h1', by rw [h2.length, h2'.length]; exact small_line hs, fun e => ?_, fun e e' => ?_, fun _ _ p hp => ?_⟩
  · subst e; cases h2
    exact out.ret b q2 (.tup h1' h2')
  · subst e'; cases h2'
    rw [List.append_nil] at q2
    exact out.ret b q2 (.tup h1 h2)
  · have e : Ex F (upd F p (.tup (vs ++ vs'))) := Ex.new (fresh_back b.ex hp)
    exact out.new b q2 hp (.tup (st_of upd_same) ((h2.mono e).append (h2'.mono e)))
def oAdd (x y : D) : Option D := (oI (fun i j => some (.int (i + j))) x y).or ((oAddS x y).or ((oAddL x y).or (oAddT x y)))
theorem opr_add : OpR X (binaryOp .Add) (rAddX X.K) := op_add.or (op_add_str.or (op_cat.or op_catA))
theorem rop_add : ROp K ct (rAddX K) oAdd := (rop_I0 (f := fun i j => .int (i + j)) fun _ _ _ _ => .int _).or (rop_addS.or (rop_addL.or (rop_addT (K := K))))
def oSub : D → D → Option D := oI fun i j => some (.int (i - j))
theorem rop_sub : ROp K ct (rI0 fun i j => .int (i - j)) oSub := rop_I0 (f := fun i j => .int (i - j)) fun _ _ _ _ => .int _
def cMul (i j : Int) : Bool := decide (-(2 ^ 64) < i ∧ i < 2 ^ 64) || decide (-(2 ^ 64) < j ∧ j < 2 ^ 64)
def oMul : D → D → Option D := oI fun i j => chk (cMul i j) (.int (i * j))
theorem rop_mulI : ROp K ct (rI CMul fun i j => .int (i * j)) oMul := rop_I (fun i j h => by
  unfold cMul at h
  rcases Bool.or_eq_true_iff.mp h with h | h
  · exact .inl (of_decide_eq_true h)
  · exact .inr (of_decide_eq_true h)) fun _ _ _ _ => .int _
def oMod : D → D → Option D := oI fun i j => chk (decide (0 < j)) (.int (i % j))
theorem rop_mod : ROp K ct (rI (fun _ j => 0 < j) fun i j => .int (i % j)) oMod := rop_I (fun i j h => of_decide_eq_true h) fun _ _ _ _ => .int _
def oDiv : D → D → Option D := oI fun i j => chk (decide (0 < j ∧ j.natAbs.log2 < 9000)) (.int (i / j))
theorem rop_div : ROp K ct (rI CDivW fun i j => .int (i / j)) oDiv := rop_I (fun i j h => of_decide_eq_true (p := 0 < j ∧ j.natAbs.log2 < 9000) h) fun _ _ _ _ => .int _
def oPow : D → D → Option D := oI fun i j => chk (decide (0 ≤ j ∧ j ≤ 1000000 ∧ i.natAbs < 2 ^ 64)) (.int (i ^ j.toNat))
theorem rop_pow : ROp K ct (rI CPow fun i j => .int (i ^ j.toNat)) oPow := rop_I (fun i j h => of_decide_eq_true (p := 0 ≤ j ∧ j ≤ 1000000 ∧ i.natAbs < 2 ^ 64) h) fun _ _ _ _ => .int _
/-! xs * n -/
def oRep : D → D → Option D
  | .lst a, .int k => chk (decide (0 ≤ k ∧ k < 100000) && small (a.length * k.toNat)) (.lst (List.replicate k.toNat a).flatten)
  | _, _ => none
theorem Reps.rep {ua : Addr} {F : Hp} {vs : List V} {ds : List D} (h : Reps K ct ua F vs ds) : ∀ n, Reps K ct ua F (List.replicate n vs).flatten (List.replicate n ds).flatten
  | 0 => .nil
  | n + 1 => by rw [List.replicate_succ, List.replicate_succ, List.flatten_cons, List.flatten_cons]; exact h.append (Reps.rep h n)
theorem rop_rep : ROp K ct rRep oRep := by
  intro ua F H u E v w x y Q b r1 r2 q
  cases r1 <;> first | exact (show False from q).elim | skip
  rename_i a vs ds h1 h2
  cases r2 <;> first | exact (show False from q).elim | skip
  rename_i k
  refine out_opt q fun d hd q2 => ?_
  obtain ⟨hs, rfl⟩ := chk_some hd
  obtain ⟨hk, hs⟩ := Bool.and_eq_true_iff.mp hs
  obtain ⟨k0, k1⟩ := of_decide_eq_true hk
  refine ⟨a, k, vs, rfl, rfl, b.ex _ _ h1, by omega, by omega, by rw [h2.length]; exact small_line hs, fun p hp => ?_⟩
  exact out.new b q2 hp (.lst upd_same ((h2.rep _).mono (Ex.new (fresh_back b.ex hp))))
def oMulX (x y : D) : Option D := (oMul x y).or (oRep x y)
theorem opr_mul : OpR X (binaryOp .Mult) rMulX := op_mul.or op_rep
theorem rop_mul : ROp K ct rMulX oMulX := (rop_mulI (K := K)).or rop_rep

/-! ### comparisons -/
mutual
def isPy : D → Bool
  | .non => true | .bl _ => true | .int _ => true | .str _ => true
  | .lst xs => isPys xs | .tup xs => isPys xs
  | .dct _ => false | .obj _ _ => false | .exc _ _ => false | .urn => false
def isPys : List D → Bool
  | [] => true
  | x :: xs => isPy x && isPys xs
end
mutual
def toPy : D → PyData
  | .non => .none | .bl b => .bool b | .int i => .int i | .str s => .str s
  | .lst xs => .list (toPys xs) | .tup xs => .tuple (toPys xs)
  | .dct _ => .none | .obj _ _ => .none | .exc _ _ => .none | .urn => .none
def toPys : List D → List PyData
  | [] => []
  | x :: xs => toPy x :: toPys xs
end
mutual
theorem dp_of {ua : Addr} {F H : Hp} (ex : Ex F H) : ∀ {v : V} {d : D}, Rep K ct ua F v d → isPy d = true → Dp K H v (toPy d)
  | _, _, .non, _ => .non
  | _, _, .bl b, _ => .bl b
  | _, _, .int i, _ => .int i
  | _, _, .str x, _ => .str x
  | _, _, .lst h hs, e => by
    unfold isPy at e
    unfold toPy
    exact .lst (sq_of (ex _ _ h)) (dps_of ex hs e)
  | _, _, .tup h hs, e => by
    unfold isPy at e
    unfold toPy
    exact .tup (ex_t ex h) (dps_of ex hs e)
  | _, _, .dct _ _ _ _, e => by unfold isPy at e; cases e
  | _, _, .obj _ _ _, e => by unfold isPy at e; cases e
  | _, _, .urn, e => by unfold isPy at e; cases e
theorem dps_of {ua : Addr} {F H : Hp} (ex : Ex F H) : ∀ {vs : List V} {ds : List D}, Reps K ct ua F vs ds → isPys ds = true → DpAll K H vs (toPys ds)
  | _, _, .nil, _ => .nil
  | _, _, .cons h hs, e => by
    unfold isPys at e
    obtain ⟨e1, e2⟩ := Bool.and_eq_true_iff.mp e
    unfold toPys
    exact .cons (dp_of ex h e1) (dps_of ex hs e2)
end
/-- may be compared -/
def shp (d : D) : Bool := isPy d && SeqAt.shaped (toPy d)
def oEq (x y : D) : Option D := chk (shp x && shp y) (.bl (PyData.eqv (toPy x) (toPy y)))
def oNe (x y : D) : Option D := chk (shp x && shp y) (.bl (!PyData.eqv (toPy x) (toPy y)))
theorem shp_of {x : D} (h : shp x = true) : isPy x = true ∧ SeqAt.shaped (toPy x) = true := Bool.and_eq_true_iff.mp h
theorem rop_eq : ROp K ct (rEqD K) oEq := by
  intro ua F H u E v w x y Q b r1 r2 q
  refine out_opt q fun d hd q2 => ?_
  obtain ⟨hs, rfl⟩ := chk_some hd
  obtain ⟨h1, h2⟩ := Bool.and_eq_true_iff.mp hs
  exact ⟨_, _, dp_of b.ex r1 (shp_of h1).1, dp_of b.ex r2 (shp_of h2).1, (shp_of h1).2, (shp_of h2).2, out.ret b q2 (.bl _)⟩
theorem rop_ne : ROp K ct (rNeD K) oNe := by
  intro ua F H u E v w x y Q b r1 r2 q
  refine out_opt q fun d hd q2 => ?_
  obtain ⟨hs, rfl⟩ := chk_some hd
  obtain ⟨h1, h2⟩ := Bool.and_eq_true_iff.mp hs
  exact ⟨_, _, dp_of b.ex r1 (shp_of h1).1, dp_of b.ex r2 (shp_of h2).1, (shp_of h1).2, (shp_of h2).2, out.ret b q2 (.bl _)⟩
def oLt : D → D → Option D := oI fun i j => some (.bl (decide (i < j)))
def oLe : D → D → Option D := oI fun i j => some (.bl (decide (i ≤ j)))
def oGt : D → D → Option D := oI fun i j => some (.bl (decide (j < i)))
def oGe : D → D → Option D := oI fun i j => some (.bl (decide (j ≤ i)))
theorem rop_lt : ROp K ct (rI0 fun i j => .bl (decide (i < j))) oLt := rop_I0 (f := fun i j => .bl (decide (i < j))) fun _ _ _ _ => .bl _
theorem rop_le : ROp K ct (rI0 fun i j => .bl (decide (i ≤ j))) oLe := rop_I0 (f := fun i j => .bl (decide (i ≤ j))) fun _ _ _ _ => .bl _
theorem rop_gt : ROp K ct (rI0 fun i j => .bl (decide (j < i))) oGt := rop_I0 (f := fun i j => .bl (decide (j < i))) fun _ _ _ _ => .bl _
theorem rop_ge : ROp K ct (rI0 fun i j => .bl (decide (j ≤ i))) oGe := rop_I0 (f := fun i j => .bl (decide (j ≤ i))) fun _ _ _ _ => .bl _
/-! is None, is True -/
def isNonD : D → Bool
  | .non => true
  | _ => false
def oIs : D → D → Option D
  | x, .non => some (.bl (isNonD x))
  | .bl a, .bl b => some (.bl (decide (a = b)))
  | _, _ => none
def oIsNot : D → D → Option D
  | x, .non => some (.bl (!isNonD x))
  | .bl a, .bl b => some (.bl (!decide (a = b)))
  | _, _ => none
def rIsX : R2 := fun x y H Q => (y = .non ∧ Q (.bl (decide (x = .non))) H) ∨ rIsB x y H Q
def rIsNotX : R2 := fun x y H Q => (y = .non ∧ Q (.bl (!decide (x = .non))) H) ∨ rNotB x y H Q
theorem isNon_rep {ua : Addr} {F : Hp} {v : V} {d : D} (r : Rep K ct ua F v d) : decide (v = .non) = isNonD d := by
  cases r <;> rfl
theorem rop_is : ROp K ct rIsX oIs := by
  intro ua F H u E v w x y Q b r1 r2 q
  have hn := isNon_rep r1
  cases r2 <;> first | (cases r1 <;> first | exact (show False from q).elim | skip) | skip
  all_goals first
    | (rename_i b1 b2; exact .inr ⟨_, _, rfl, rfl, out.ret b q (.bl _)⟩)
    | exact .inl ⟨rfl, out.ret b q (.bl _)⟩
theorem rop_isnot : ROp K ct rIsNotX oIsNot := by
  intro ua F H u E v w x y Q b r1 r2 q
  cases r2 <;> first | (cases r1 <;> first | exact (show False from q).elim | skip) | skip
  all_goals first
    | (rename_i b1 b2; exact .inr ⟨_, _, rfl, rfl, out.ret b q (.bl _)⟩)
    | exact .inl ⟨rfl, out.ret b q (.bl _)⟩

/-! ### dicts: keys -/
def keyD : D → Option Key
  | .int i => some (.inl i)
  | .str s => some (.inr s)
  | _ => none
theorem keyD_rep {ua : Addr} {F : Hp} {v : V} {d : D} {k : Key} (r : Rep K ct ua F v d) (h : keyD d = some k) : v = kV k := by
  cases r <;> first | (cases h; rfl) | cases h
def lookD (kds : List (Key × D)) (k : Key) : Option D := (kds.find? fun kv => decide (kv.1 = k)).map (·.2)
theorem look_rep {ua : Addr} {F : Hp} {k : Key} : ∀ {kvs : List (Key × V)} {kds : List (Key × D)}, kds.map (·.1) = kvs.map (·.1) → Reps K ct ua F (kvs.map (·.2)) (kds.map (·.2)) →
    (∃ v d, valV kvs k = some v ∧ lookD kds k = some d ∧ Rep K ct ua F v d) ∨ (valV kvs k = none ∧ lookD kds k = none)
  | [], [], _, _ => .inr ⟨rfl, rfl⟩
  | [], _ :: _, h, _ => by cases h
  | _ :: _, [], h, _ => by cases h
  | (k1, v1) :: kvs, (k2, d2) :: kds, h, r => by
    have h1 : k2 = k1 := (List.cons.inj h).1
    have h2 := (List.cons.inj h).2
    subst h1
    cases r with
    | cons r1 r2 =>
      by_cases e : k2 = k
      · exact .inl ⟨v1, d2, valV_pos e, by simp [lookD, List.find?_cons, e], r1⟩
      · rcases look_rep (k := k) h2 r2 with ⟨v, d, a, b, c⟩ | ⟨a, b⟩
        · exact .inl ⟨v, d, by rw [valV_neg e]; exact a, by simpa [lookD, List.find?_cons, e] using b, c⟩
        · exact .inr ⟨by rw [valV_neg e]; exact a, by simpa [lookD, List.find?_cons, e] using b⟩
/-! ### in -/
def anyEq (x : D) (ys : List D) : Bool := ys.any fun z => PyData.eqv (toPy z) (toPy x)
theorem toPys_any (x : PyData) : ∀ ys : List D, ((toPys ys).any fun z => PyData.eqv z x) = ys.any fun z => PyData.eqv (toPy z) x
  | [] => by unfold toPys; rfl
  | y :: ys => by unfold toPys; rw [List.any_cons, List.any_cons, toPys_any x ys]
def oIn : D → D → Option Bool
  | x, .lst ys => chk (shp x && shp (.lst ys)) (anyEq x ys)
  | x, .tup ys => chk (shp x && shp (.tup ys)) (anyEq x ys)
  | .str a, .str b => some (!(Builtin.Str.occurrences b a 0 b.length 1).isEmpty)
  | x, .dct kds => (keyD x).map fun k => (lookD kds k).isSome
  | _, _ => none
def oInD (x y : D) : Option D := (oIn x y).map .bl
def oNotInD (x y : D) : Option D := (oIn x y).map fun b => .bl (!b)
/-- x in a tuple of data -/
def rInT (K : PySem.W.Frag) (neg : Bool) : R2 := fun x y H Q => ∃ d ds, Dp K H x d ∧ Dp K H y (.tuple ds) ∧ SeqAt.shaped d = true ∧ SeqAt.shaped (.tuple ds) = true ∧ Q (.bl (if neg then !(ds.any fun z => PyData.eqv z d) else ds.any fun z => PyData.eqv z d)) H
def rInK (neg : Bool) : R2 := fun x y H Q => ∃ a o, y = .ref a ∧ DGet H a x o ∧ Q (.bl (if neg then !o.isSome else o.isSome)) H
theorem opr_inK (hu : X.A.units + 1 < cLine) : OpR X (compareOp .In) (rInK false) := by
  intro pins s σ H x y v u Q I rx ry ⟨a, o, e, g, q⟩
  subst e
  obtain rfl : u = Value.ref a := ry
  exact d_in hu I g rx fun s3 I3 => ⟨.bl o.isSome, H, I3, rfl, q⟩
theorem opr_notInK (hu : X.A.units + 1 < cLine) : OpR X (compareOp .NotIn) (rInK true) := by
  intro pins s σ H x y v u Q I rx ry ⟨a, o, e, g, q⟩
  subst e
  obtain rfl : u = Value.ref a := ry
  exact d_notIn hu I g rx fun s3 I3 => ⟨.bl (!o.isSome), H, I3, rfl, q⟩
end
end Dl
set_option Elab.async false
set_option linter.all false
set_option maxRecDepth 100000
set_option maxHeartbeats 4000000
/-! Dl3: in, subscripts, slices, calls of built-ins, over data. -/
namespace Dl
open PySem L2 Evl

section
variable {X : Cx} {ct : Nat → Addr} {K : PySem.W.Frag}
/-! ### in -/
theorem opr_inT (hu : X.A.units + 65 < cLine) : OpR X (compareOp .In) (rInT X.K false) := by
  intro pins s σ H x y v u Q I rx ry h
  obtain ⟨d, ds, hd, he, sd, se, q⟩ := h
  obtain ⟨as, r1⟩ := Dp.reads I d x v hd rx
  obtain ⟨bs, r2⟩ := Dp.reads I (.tuple ds) y u he ry
  exact SeqAt.in_tuple_reads r2 r1 (SeqAt.canLay_of_shaped se) (SeqAt.canLay_of_shaped sd) (PyProof.Rows.room_in_shaped sd hu) ⟨.bl _, H, I, rfl, q⟩
theorem opr_notInT (hu : X.A.units + 65 < cLine) : OpR X (compareOp .NotIn) (rInT X.K true) := by
  intro pins s σ H x y v u Q I rx ry h
  obtain ⟨d, ds, hd, he, sd, se, q⟩ := h
  obtain ⟨as, r1⟩ := Dp.reads I d x v hd rx
  obtain ⟨bs, r2⟩ := Dp.reads I (.tuple ds) y u he ry
  exact SeqAt.notIn_tuple_reads r2 r1 (SeqAt.canLay_of_shaped se) (SeqAt.canLay_of_shaped sd) (PyProof.Rows.room_in_shaped sd hu) ⟨.bl _, H, I, rfl, q⟩
abbrev rInS : R2 := fun x y H Q => ∃ i j, x = .str i ∧ y = .str j ∧ Q (.bl (!(Builtin.Str.occurrences j i 0 j.length 1).isEmpty)) H
abbrev rNotInS' : R2 := fun x y H Q => ∃ i j, x = .str i ∧ y = .str j ∧ Q (.bl (!(!(Builtin.Str.occurrences j i 0 j.length 1).isEmpty))) H
abbrev rInX (K : PySem.W.Frag) : R2 := rOr (rInD K) (rOr (rInT K false) (rOr rInS (rInK false)))
abbrev rNotInX (K : PySem.W.Frag) : R2 := rOr (rNotInD K) (rOr (rInT K true) (rOr rNotInS' (rInK true)))
theorem opr_in (hu : X.A.units + 65 < cLine) : OpR X (compareOp .In) (rInX X.K) := (op_inD hu).or ((opr_inT hu).or (op_in_str.or (opr_inK (by omega))))
theorem opr_notIn (hu : X.A.units + 65 < cLine) : OpR X (compareOp .NotIn) (rNotInX X.K) := (op_notInD hu).or ((opr_notInT hu).or (op_notIn_str.or (opr_notInK (by omega))))
theorem dget_rep {ua : Addr} {F H : Hp} {a : Addr} {kvs : List (Key × V)} {kds : List (Key × D)} {v : V} {x : D} {k : Key} (ex : Ex F H) (h1 : F a = some (.dK kvs)) (h2 : kds.map (·.1) = kvs.map (·.1)) (h3 : Reps K ct ua F (kvs.map (·.2)) (kds.map (·.2)))
    (rx : Rep K ct ua F v x) (hk : keyD x = some k) : ∃ o, DGet H a v o ∧ o.isSome = (lookD kds k).isSome ∧ ∀ d, lookD kds k = some d → ∃ w, o = some w ∧ Rep K ct ua F w d := by
  have e := keyD_rep rx hk
  subst e
  refine ⟨valV kvs k, DGet.k (ex _ _ h1), ?_, fun d hd => ?_⟩
  · rcases look_rep (k := k) h2 h3 with ⟨v, d, a, b, _⟩ | ⟨a, b⟩
    · rw [a, b]; rfl
    · rw [a, b]; rfl
  · rcases look_rep (k := k) h2 h3 with ⟨v, d', a, b, c⟩ | ⟨a, b⟩
    · rw [b] at hd; cases hd; exact ⟨v, a, c⟩
    · rw [b] at hd; cases hd
theorem rop_in : ROp K ct (rInX K) oInD := by
  intro ua F H u E v w x y Q b r1 r2 q
  refine out_opt q fun d hd q2 => ?_
  unfold oInD at hd
  cases r2 with
  | lst h1 h2 =>
    cases e : oIn x (.lst _) with
    | none => rw [e] at hd; cases hd
    | some k =>
      rw [e] at hd; cases hd
      unfold oIn at e
      obtain ⟨hs, rfl⟩ := chk_some e
      obtain ⟨s1, s2⟩ := Bool.and_eq_true_iff.mp hs
      have dy := dp_of b.ex (Rep.lst h1 h2) (shp_of s2).1
      have sy := (shp_of s2).2
      unfold toPy at dy sy
      refine .inl ⟨_, _, dp_of b.ex r1 (shp_of s1).1, dy, (shp_of s1).2, sy, ?_⟩
      rw [toPys_any]
      exact out.ret b q2 (.bl _)
  | tup h1 h2 =>
    cases e : oIn x (.tup _) with
    | none => rw [e] at hd; cases hd
    | some k =>
      rw [e] at hd; cases hd
      unfold oIn at e
      obtain ⟨hs, rfl⟩ := chk_some e
      obtain ⟨s1, s2⟩ := Bool.and_eq_true_iff.mp hs
      have dy := dp_of b.ex (Rep.tup h1 h2) (shp_of s2).1
      have sy := (shp_of s2).2
      unfold toPy at dy sy
      refine .inr (.inl ⟨_, _, dp_of b.ex r1 (shp_of s1).1, dy, (shp_of s1).2, sy, ?_⟩)
      rw [if_neg Bool.false_ne_true, toPys_any]
      exact out.ret b q2 (.bl _)
  | @dct a kvs kds h1 h2 h3 h4 =>
    cases hk : keyD x with
    | none => cases x <;> first | (simp [oIn, hk] at hd; done) | cases hk
    | some k =>
      have e : oIn x (.dct kds) = some (lookD kds k).isSome := by
        cases x <;> first | (simp [oIn, hk]; done) | cases hk
      rw [e] at hd; cases hd
      obtain ⟨o, g, g2, _⟩ := dget_rep b.ex h1 h3 h4 r1 hk
      refine .inr (.inr (.inr ⟨_, o, rfl, g, ?_⟩))
      rw [if_neg Bool.false_ne_true, g2]
      exact out.ret b q2 (.bl _)
  | str z =>
    cases r1 <;> first | (cases hd; done) | skip
    cases hd
    exact .inr (.inr (.inl ⟨_, _, rfl, rfl, out.ret b q2 (.bl _)⟩))
  | _ => cases r1 <;> cases hd
theorem rop_notIn : ROp K ct (rNotInX K) oNotInD := by
  intro ua F H u E v w x y Q b r1 r2 q
  refine out_opt q fun d hd q2 => ?_
  unfold oNotInD at hd
  cases r2 with
  | lst h1 h2 =>
    cases e : oIn x (.lst _) with
    | none => rw [e] at hd; cases hd
    | some k =>
      rw [e] at hd; cases hd
      unfold oIn at e
      obtain ⟨hs, rfl⟩ := chk_some e
      obtain ⟨s1, s2⟩ := Bool.and_eq_true_iff.mp hs
      have dy := dp_of b.ex (Rep.lst h1 h2) (shp_of s2).1
      have sy := (shp_of s2).2
      unfold toPy at dy sy
      refine .inl ⟨_, _, dp_of b.ex r1 (shp_of s1).1, dy, (shp_of s1).2, sy, ?_⟩
      rw [toPys_any]
      exact out.ret b q2 (.bl _)
  | tup h1 h2 =>
    cases e : oIn x (.tup _) with
    | none => rw [e] at hd; cases hd
    | some k =>
      rw [e] at hd; cases hd
      unfold oIn at e
      obtain ⟨hs, rfl⟩ := chk_some e
      obtain ⟨s1, s2⟩ := Bool.and_eq_true_iff.mp hs
      have dy := dp_of b.ex (Rep.tup h1 h2) (shp_of s2).1
      have sy := (shp_of s2).2
      unfold toPy at dy sy
      refine .inr (.inl ⟨_, _, dp_of b.ex r1 (shp_of s1).1, dy, (shp_of s1).2, sy, ?_⟩)
      rw [if_pos rfl, toPys_any]
      exact out.ret b q2 (.bl _)
  | @dct a kvs kds h1 h2 h3 h4 =>
    cases hk : keyD x with
    | none => cases x <;> first | (simp [oIn, hk] at hd; done) | cases hk
    | some k =>
      have e : oIn x (.dct kds) = some (lookD kds k).isSome := by
        cases x <;> first | (simp [oIn, hk]; done) | cases hk
      rw [e] at hd; cases hd
      obtain ⟨o, g, g2, _⟩ := dget_rep b.ex h1 h3 h4 r1 hk
      refine .inr (.inr (.inr ⟨_, o, rfl, g, ?_⟩))
      rw [if_pos rfl, g2]
      exact out.ret b q2 (.bl _)
  | str z =>
    cases r1 <;> first | (cases hd; done) | skip
    cases hd
    exact .inr (.inr (.inl ⟨_, _, rfl, rfl, out.ret b q2 (.bl _)⟩))
  | _ => cases r1 <;> cases hd

/-! ### subscripts -/
def rIxK : R2 := fun x y H Q => ∃ a v, x = .ref a ∧ DGet H a y (some v) ∧ Q v H
theorem ix_dict (hu : X.A.units + 1 < cLine) : IxR X rIxK := by
  intro value slice pins s σ H x y v u Q I rx ry ⟨a, z, e, g, q⟩ hs
  subst e
  obtain rfl : v = Value.ref a := rx
  exact PyProof.Rows.tail_any (dict_typeIs I g) PySem.F.slot_dict_getitem.lookup (d_getItem hu I g ry fun w' s3 I3 rw' => ⟨z, H, I3, rw', q⟩) hs
abbrev rIxX (K : PySem.W.Frag) : R2 := rOr (rIxL K) (rOr (rIxT K) (rOr rIxS rIxK))
theorem ixr (hu : X.A.units + 1 < cLine) : IxR X (rIxX X.K) := ix_list.or (ix_tup.or (ix_str.or (ix_dict hu)))
def oIx : D → D → Option D
  | .lst xs, .int i => atI xs i
  | .tup xs, .int i => atI xs i
  | .str z, .int i => if small z.length = true then (atI z.cps.toList i).map fun c => .str ⟨#[c]⟩ else none
  | .dct kds, y => (keyD y).bind fun k => lookD kds k
  | _, _ => none
theorem atI_rep {ua : Addr} {F : Hp} {vs : List V} {ds : List D} {i : Int} {d : D} (h : Reps K ct ua F vs ds) (e : atI ds i = some d) : ∃ v, atI vs i = some v ∧ Rep K ct ua F v d := by
  unfold atI at e ⊢
  rw [h.length]
  cases q : ixN ds.length i with
  | none => rw [q] at e; cases e
  | some j =>
    rw [q] at e
    exact h.get' e
theorem rop_ix : ROp K ct (rIxX K) oIx := by
  intro ua F H u E v w x y Q b r1 r2 q
  refine out_opt q fun d hd q2 => ?_
  cases r1 with
  | lst h1 h2 =>
    cases r2 <;> first | (cases hd; done) | skip
    obtain ⟨v, e, r⟩ := atI_rep h2 hd
    exact .inl ⟨_, _, _, v, rfl, rfl, sq_of (b.ex _ _ h1), e, out.ret b q2 r⟩
  | tup h1 h2 =>
    cases r2 <;> first | (cases hd; done) | skip
    obtain ⟨v, e, r⟩ := atI_rep h2 hd
    exact .inr (.inl ⟨_, _, _, v, rfl, rfl, ex_t b.ex h1, e, out.ret b q2 r⟩)
  | str z =>
    cases r2 <;> first | (cases hd; done) | skip
    rename_i i
    have hd : (if small z.length = true then (atI z.cps.toList i).map fun c => D.str ⟨#[c]⟩ else none) = some d := hd
    split at hd
    · rename_i hs
      cases e : atI z.cps.toList i with
      | none => rw [e] at hd; cases hd
      | some c =>
        rw [e] at hd; cases hd
        exact .inr (.inr (.inl ⟨z, i, c, rfl, rfl, small_line hs, e, out.ret b q2 (.str _)⟩))
    · cases hd
  | dct h1 h2 h3 h4 =>
    have hd : ((keyD y).bind fun k => lookD _ k) = some d := hd
    cases hk : keyD y with
    | none => rw [hk] at hd; cases hd
    | some k =>
      rw [hk] at hd
      obtain ⟨o, g, _, g3⟩ := dget_rep b.ex h1 h3 h4 r2 hk
      obtain ⟨w', e, r⟩ := g3 d hd
      subst e
      exact .inr (.inr (.inr ⟨_, w', rfl, g, out.ret b q2 r⟩))
  | _ => cases r2 <;> cases hd
theorem pd_ix {E : St → XK} {a b : Expr} {f g : DE} {pos : Pos} (hu : X.A.units + 1 < cLine) (ha : PD X ct E a f) (hb : PD X ct E b g) (hs : PlainIx b := by exact fun _ _ => rfl) : PD X ct E (.Subscript a b pos) (dOp oIx f g) :=
  PE.imp (pe_ix (ixr hu) ha hb hs) (tOp_of rop_ix)

/-! ### slices -/
abbrev DO := En → M (Option Int)
abbrev rO : Addr → Hp → Option Int → Option Int → Prop := fun _ _ b c => b = c
def PDO (X : Cx) (ct : Nat → Addr) (E : St → XK) (e : Option Expr) (f : DO) : Prop := PO X e (tG X.K ct rO E f)
theorem PO.imp {X : Cx} {e : Option Expr} {t t' : TO} (h : PO X e t) (k : ∀ σ H Q, t' σ H Q → t σ H Q) : PO X e t' := ⟨fun pins s σ H Q I q => h.run pins s σ H Q I (k σ H Q q)⟩
def dNoPart : DO := fun _ => ret none
def dPart (f : DE) : DO := fun ρ => bnd (f ρ) fun x => match x with
  | .int i => ret (some i)
  | _ => stuck
variable {E : St → XK}
theorem pdo_none : PDO X ct E none dNoPart := PO.imp po_none fun σ H Q ⟨ua, F, ρ, u, R, q⟩ => out.ret R.toBs q rfl
theorem pdo_some {e : Expr} {f : DE} (h : PD X ct E e f) : PDO X ct E (some e) (dPart f) := by
  refine PO.imp (po_some h) fun σ H Q ⟨ua, F, ρ, u, R, q⟩ => ?_
  refine tG_bind R q fun F1 v H1 x u1 s1 R1 r1 q1 => ?_
  cases r1 <;> first | exact (show False from q1).elim | skip
  rename_i i
  exact ⟨i, rfl, out.ret R1.toBs q1 rfl⟩
def cutD {α : Type} (xs : List α) (lo hi : Option Int) : List α := (xs.drop (HT.sIx xs.length 0 lo)).take (HT.sIx xs.length xs.length hi - HT.sIx xs.length 0 lo)
theorem cut_rep {ua : Addr} {F : Hp} {vs : List V} {ds : List D} (h : Reps K ct ua F vs ds) (lo hi : Option Int) : Reps K ct ua F (cutV vs lo hi) (cutD ds lo hi) := by
  unfold cutV cutD
  rw [h.length]
  exact (h.drop _).take _
abbrev rSlX (K : PySem.W.Frag) : V → Option Int → Option Int → Hp → VK → Prop := fun x lo hi H Q => rSlL K x lo hi H Q ∨ (rSlA K x lo hi H Q ∨ rSlS x lo hi H Q)
theorem slr : SlR X (rSlX X.K) := sl_list.or (sl_tupA.or sl_str)
def oSl : D → Option Int → Option Int → Option D
  | .lst xs, lo, hi => some (.lst (cutD xs lo hi))
  | .tup xs, lo, hi => some (.tup (cutD xs lo hi))
  | .str z, lo, hi => if small z.length = true then some (.str (cutS z lo hi)) else none
  | _, _, _ => none
def dSl (f : DE) (g h : DO) : DE := fun ρ => bnd (f ρ) fun x => bnd (g ρ) fun lo => bnd (h ρ) fun hi => opt (oSl x lo hi)
theorem cut_whole {α : Type} (xs : List α) (lo hi : Option Int) (h : HT.sIx xs.length 0 lo = 0 ∧ HT.sIx xs.length xs.length hi = xs.length) : cutD xs lo hi = xs := by
  unfold cutD
  rw [h.1, h.2, List.drop_zero, Nat.sub_zero, List.take_length]
theorem pd_slice {e : Expr} {lo hi : Option Expr} {f : DE} {g h : DO} {p2 pos : Pos} (he : PD X ct E e f) (hl : PDO X ct E lo g) (hh : PDO X ct E hi h) : PD X ct E (.Subscript e (.Slice lo hi none p2) pos) (dSl f g h) := by
  refine PE.imp (pe_slice slr he hl hh) fun σ H Q ⟨ua, F, ρ, u, R, q⟩ => ?_
  refine tG_bind R q fun F1 v H1 x u1 s1 R1 r1 q1 => ?_
  refine tG_bind R1 q1 fun F2 lo' H2 lo u2 s2 R2 r2 q2 => ?_
  refine tG_bind R2 q2 fun F3 hi' H3 hi u3 s3 R3 r3 q3 => ?_
  obtain rfl : lo' = lo := r2
  obtain rfl : hi' = hi := r3
  refine out_opt q3 fun d hd q4 => ?_
  have rx := (r1.mono s2.exF).mono s3.exF
  have b := R3.toBs
  cases rx <;> first | (cases hd; done) | skip
  · rename_i z
    have hd : (if small z.length = true then some (D.str (cutS z lo' hi')) else none) = some d := hd
    split at hd
    · rename_i hs
      cases hd
      exact .inr (.inr ⟨z, rfl, small_line hs, out.ret b q4 (.str _)⟩)
    · cases hd
  · rename_i a vs ds h1 h2
    cases hd
    refine .inl ⟨a, vs, rfl, sq_of (b.ex _ _ h1), fun p hp => ?_⟩
    exact out.new b q4 hp (.lst upd_same ((cut_rep h2 lo' hi').mono (Ex.new (fresh_back b.ex hp))))
  · rename_i a vs ds h1 h2
    cases hd
    refine .inr (.inl ⟨a, vs, rfl, ex_t b.ex h1, fun hw => ?_, fun _ p hp => ?_⟩)
    · rw [h2.length] at hw
      rw [cut_whole ds lo' hi' hw] at q4
      exact out.ret b q4 (.tup h1 h2)
    · exact out.new b q4 hp (.tup (st_of upd_same) ((cut_rep h2 lo' hi').mono (Ex.new (fresh_back b.ex hp))))

/-! ### built-in calls -/
def RCp (K : PySem.W.Frag) (ct : Nat → Addr) (r : List V → Hp → VK → Prop) (o : List D → Option D) : Prop := ∀ (ua : Addr) (F H : Hp) (u : U) (E : XK) (vs : List V) (xs : List D) (Q : VK), Bs ua F u H → Reps K ct ua F vs xs →
  out K ct (rD K ct) ua F H E (opt (o xs) u) Q → r vs H Q
abbrev rcOr (r r' : List V → Hp → VK → Prop) : List V → Hp → VK → Prop := fun xs H Q => r xs H Q ∨ r' xs H Q
theorem CallR.or' {f : Value} {r r' : List V → Hp → VK → Prop} (h : CallR X f r) (h' : CallR X f r') : CallR X f (rcOr r r') := by
  intro pins s σ H xs us Q I rs q
  rcases q with q | q
  · exact h pins s σ H xs us Q I rs q
  · exact h' pins s σ H xs us Q I rs q
theorem RCp.or {r r' : List V → Hp → VK → Prop} {o o' : List D → Option D} (h : RCp K ct r o) (h' : RCp K ct r' o') : RCp K ct (rcOr r r') (fun xs => (o xs).or (o' xs)) := by
  intro ua F H u E vs xs Q b r1 q
  cases e : o xs with
  | some d => exact .inl (h ua F H u E vs xs Q b r1 (by simpa [e] using q))
  | none => exact .inr (h' ua F H u E vs xs Q b r1 (by simpa [e] using q))
def dCall (o : List D → Option D) (g : DA) : DE := fun ρ => bnd (g ρ) fun xs => opt (o xs)
theorem tCB_of {r : List V → Hp → VK → Prop} {o : List D → Option D} {g : DA} (ho : RCp X.K ct r o) : ∀ σ H Q, tG X.K ct (rD X.K ct) E (dCall o g) σ H Q → tCB r (tG X.K ct (rA X.K ct) E g) σ H Q := by
  rintro σ H Q ⟨ua, F, ρ, u, R, q⟩
  refine tG_bind R q fun F1 vs H1 xs u1 s1 R1 r1 q1 => ?_
  exact ho ua F1 H1 u1 (E σ) vs xs Q R1.toBs r1 q1
theorem pd_callB {id : String} {x : Str} {p pos : Pos} {e : Expr} {es : List Expr} {r : List V → Hp → VK → Prop} {o : List D → Option D} {g : DA} (hc : CallR X (.builtin id) r) (ho : RCp X.K ct r o) (hg : Gl X x) (hm : X.mg x = none) (hv : bootBuiltins x = some (.builtin id)) (ha : PDA X ct E (e :: es) g)
    (hn : x ≠ "__name__" := by decide) (hdb : (x == ("__debug__" : Str)) = false := by decide) (he : starEach (e :: es) X.env = (false, eval e X.env) :: starEach es X.env := by rfl) (hpl : (backTo pos (starEach es X.env)).any (·.1) = false := by rfl) : PD X ct E (.Call (.Name x p) (e :: es) [] pos) (dCall o g) :=
  PE.imp (pe_callB hc hg hm hv ha hn hdb he hpl) (tCB_of ho)
theorem pd_callTy {T : String} {x : Str} {p pos : Pos} {e : Expr} {es : List Expr} {r : List V → Hp → VK → Prop} {o : List D → Option D} {g : DA} (hc : CallR X (.type T) r) (ho : RCp X.K ct r o) (hg : Gl X x) (hm : X.mg x = none) (hv : bootBuiltins x = some (.type T)) (ha : PDA X ct E (e :: es) g)
    (hn : x ≠ "__name__" := by decide) (hdb : (x == ("__debug__" : Str)) = false := by decide) (he : starEach (e :: es) X.env = (false, eval e X.env) :: starEach es X.env := by rfl) (hpl : (backTo pos (starEach es X.env)).any (·.1) = false := by rfl) : PD X ct E (.Call (.Name x p) (e :: es) [] pos) (dCall o g) :=
  PE.imp (pe_callTy hc hg hm hv ha hn hdb he hpl) (tCB_of ho)
theorem reps1 {ua : Addr} {F : Hp} {vs : List V} {x : D} (h : Reps K ct ua F vs [x]) : ∃ v, vs = [v] ∧ Rep K ct ua F v x := by
  cases h with | cons a b => cases b; exact ⟨_, rfl, a⟩
theorem reps2 {ua : Addr} {F : Hp} {vs : List V} {x y : D} (h : Reps K ct ua F vs [x, y]) : ∃ v w, vs = [v, w] ∧ Rep K ct ua F v x ∧ Rep K ct ua F w y := by
  cases h with | cons a b => cases b with | cons c d => cases d; exact ⟨_, _, rfl, a, c⟩
/-! len -/
def oLen : List D → Option D
  | [.lst xs] => some (.int xs.length)
  | [.tup xs] => some (.int xs.length)
  | [.str z] => if small z.length = true then some (.int z.length) else none
  | [.dct kds] => some (.int kds.length)
  | _ => none
def rLenX (K : PySem.W.Frag) : List V → Hp → VK → Prop := rcOr (fun xs H Q => ∃ p ys, xs = [.ref p] ∧ (SqL K H p ys ∨ SqT K H p ys) ∧ Q (.int ys.length) H)
  (rcOr (fun xs H Q => ∃ z, xs = [.str z] ∧ z.length ≤ sizeLine ∧ Q (.int z.length) H) (fun xs H Q => ∃ a kvs, xs = [V.ref a] ∧ H a = some (.dK kvs) ∧ Q (.int kvs.length) H))
theorem cr_len : CallR X (.builtin "len") (rLenX X.K) := CallR.or' call_len_seq (CallR.or' call_len_str call_lenD)
theorem rcp_len : RCp K ct (rLenX K) oLen := by
  intro ua F H u E vs xs Q b r q
  refine out_opt q fun d hd q2 => ?_
  match xs, hd with
  | [.lst ds], hd =>
    obtain ⟨v, rfl, r1⟩ := reps1 r
    cases r1 with | lst h1 h2 =>
    cases hd
    refine .inl ⟨_, _, rfl, .inl (sq_of (b.ex _ _ h1)), ?_⟩
    rw [h2.length]; exact out.ret b q2 (.int _)
  | [.tup ds], hd =>
    obtain ⟨v, rfl, r1⟩ := reps1 r
    cases r1 with | tup h1 h2 =>
    cases hd
    refine .inl ⟨_, _, rfl, .inr (ex_t b.ex h1), ?_⟩
    rw [h2.length]; exact out.ret b q2 (.int _)
  | [.str z], hd =>
    obtain ⟨v, rfl, r1⟩ := reps1 r
    cases r1
    have hd : (if small z.length = true then some (D.int z.length) else none) = some d := hd
    split at hd
    · rename_i hs; cases hd
      exact .inr (.inl ⟨_, rfl, small_line hs, out.ret b q2 (.int _)⟩)
    · cases hd
  | [.dct kds], hd =>
    obtain ⟨v, rfl, r1⟩ := reps1 r
    cases r1 with | dct h1 h2 h3 h4 =>
    cases hd
    refine .inr (.inr ⟨_, _, rfl, b.ex _ _ h1, ?_⟩)
    have e := congrArg List.length h3
    rw [List.length_map, List.length_map] at e
    rw [← e]; exact out.ret b q2 (.int _)
/-! list, tuple -/
def oList : List D → Option D
  | [.lst xs] => some (.lst xs)
  | [.tup xs] => some (.lst xs)
  | _ => none
theorem rcp_list : RCp K ct (fun xs H Q => ∃ p ys, xs = [.ref p] ∧ (SqL K H p ys ∨ SqT K H p ys) ∧ ∀ l, H l = none → Q (.ref l) (upd H l (.lst ys))) oList := by
  intro ua F H u E vs xs Q b r q
  refine out_opt q fun d hd q2 => ?_
  match xs, hd with
  | [.lst ds], hd =>
    obtain ⟨v, rfl, r1⟩ := reps1 r
    cases r1 with | lst h1 h2 =>
    cases hd
    exact ⟨_, _, rfl, .inl (sq_of (b.ex _ _ h1)), fun p hp => out.new b q2 hp (.lst upd_same (h2.mono (Ex.new (fresh_back b.ex hp))))⟩
  | [.tup ds], hd =>
    obtain ⟨v, rfl, r1⟩ := reps1 r
    cases r1 with | tup h1 h2 =>
    cases hd
    exact ⟨_, _, rfl, .inr (ex_t b.ex h1), fun p hp => out.new b q2 hp (.lst upd_same (h2.mono (Ex.new (fresh_back b.ex hp))))⟩
def oTuple : List D → Option D
  | [.lst xs] => some (.tup xs)
  | [.tup xs] => some (.tup xs)
  | _ => none
theorem rcp_tuple : RCp K ct (fun xs H Q => ∃ p ys, xs = [.ref p] ∧ ((SqL K H p ys ∧ ∀ l, H l = none → Q (.ref l) (upd H l (.tup ys))) ∨ (SqT K H p ys ∧ Q (.ref p) H))) oTuple := by
  intro ua F H u E vs xs Q b r q
  refine out_opt q fun d hd q2 => ?_
  match xs, hd with
  | [.lst ds], hd =>
    obtain ⟨v, rfl, r1⟩ := reps1 r
    cases r1 with | lst h1 h2 =>
    cases hd
    exact ⟨_, _, rfl, .inl ⟨sq_of (b.ex _ _ h1), fun p hp => out.new b q2 hp (.tup (st_of upd_same) (h2.mono (Ex.new (fresh_back b.ex hp))))⟩⟩
  | [.tup ds], hd =>
    obtain ⟨v, rfl, r1⟩ := reps1 r
    cases r1 with | tup h1 h2 =>
    cases hd
    exact ⟨_, _, rfl, .inr ⟨ex_t b.ex h1, out.ret b q2 (.tup h1 h2)⟩⟩
/-! all, any, sum -/
def boolsD : List D → Option (List Bool)
  | [] => some []
  | .bl b :: xs => (boolsD xs).map (b :: ·)
  | _ :: _ => none
theorem bools_rep {ua : Addr} {F : Hp} : ∀ {vs : List V} {ds : List D} {bs : List Bool}, Reps K ct ua F vs ds → boolsD ds = some bs → vs = bs.map V.bl
  | _, [], _, h, e => by cases h; cases e; rfl
  | _, d :: ds, bs, h, e => by
    cases h with | cons r t =>
    cases r <;> first | (cases e; done) | skip
    rename_i k
    cases q : boolsD ds with
    | none => simp [boolsD, q] at e
    | some bs' =>
      simp [boolsD, q] at e
      subst e
      rw [bools_rep t q]; rfl
def oAll : List D → Option D
  | [.lst xs] => (boolsD xs).map fun bs => .bl (bs.all id)
  | _ => none
theorem rcp_all : RCp K ct (rAll K) oAll := by
  intro ua F H u E vs xs Q b r q
  refine out_opt q fun d hd q2 => ?_
  match xs, hd with
  | [.lst ds], hd =>
    obtain ⟨v, rfl, r1⟩ := reps1 r
    cases r1 with | lst h1 h2 =>
    have hd : (boolsD ds).map (fun bs => D.bl (bs.all id)) = some d := hd
    cases e : boolsD ds with
    | none => rw [e] at hd; cases hd
    | some bs =>
      rw [e] at hd; cases hd
      have ev := bools_rep h2 e
      exact ⟨_, bs, rfl, sq_of (b.ex _ _ (by rw [← ev]; exact h1)), out.ret b q2 (.bl _)⟩
def oAny : List D → Option D
  | [.lst xs] => (boolsD xs).map fun bs => .bl (bs.any id)
  | _ => none
theorem rcp_any : RCp K ct (rAny K) oAny := by
  intro ua F H u E vs xs Q b r q
  refine out_opt q fun d hd q2 => ?_
  match xs, hd with
  | [.lst ds], hd =>
    obtain ⟨v, rfl, r1⟩ := reps1 r
    cases r1 with | lst h1 h2 =>
    have hd : (boolsD ds).map (fun bs => D.bl (bs.any id)) = some d := hd
    cases e : boolsD ds with
    | none => rw [e] at hd; cases hd
    | some bs =>
      rw [e] at hd; cases hd
      have ev := bools_rep h2 e
      exact ⟨_, bs, rfl, sq_of (b.ex _ _ (by rw [← ev]; exact h1)), out.ret b q2 (.bl _)⟩
def intsD : List D → Option (List Int)
  | [] => some []
  | .int b :: xs => (intsD xs).map (b :: ·)
  | _ :: _ => none
theorem ints_rep {ua : Addr} {F : Hp} : ∀ {vs : List V} {ds : List D} {bs : List Int}, Reps K ct ua F vs ds → intsD ds = some bs → vs = bs.map V.int
  | _, [], _, h, e => by cases h; cases e; rfl
  | _, d :: ds, bs, h, e => by
    cases h with | cons r t =>
    cases r <;> first | (cases e; done) | skip
    rename_i k
    cases q : intsD ds with
    | none => simp [intsD, q] at e
    | some bs' =>
      simp [intsD, q] at e
      subst e
      rw [ints_rep t q]; rfl
def oSum : List D → Option D
  | [.lst xs] => (intsD xs).map fun bs => .int bs.sum
  | _ => none
theorem rcp_sum : RCp K ct (rSum K) oSum := by
  intro ua F H u E vs xs Q b r q
  refine out_opt q fun d hd q2 => ?_
  match xs, hd with
  | [.lst ds], hd =>
    obtain ⟨v, rfl, r1⟩ := reps1 r
    cases r1 with | lst h1 h2 =>
    have hd : (intsD ds).map (fun bs => D.int bs.sum) = some d := hd
    cases e : intsD ds with
    | none => rw [e] at hd; cases hd
    | some bs =>
      rw [e] at hd; cases hd
      have ev := ints_rep h2 e
      exact ⟨_, bs, rfl, sq_of (b.ex _ _ (by rw [← ev]; exact h1)), out.ret b q2 (.int _)⟩
/-! sorted -/
def strsD : List D → Option (List Str)
  | [] => some []
  | .str b :: xs => (strsD xs).map (b :: ·)
  | _ :: _ => none
theorem strs_rep {ua : Addr} {F : Hp} : ∀ {vs : List V} {ds : List D} {bs : List Str}, Reps K ct ua F vs ds → strsD ds = some bs → vs = bs.map V.str
  | _, [], _, h, e => by cases h; cases e; rfl
  | _, d :: ds, bs, h, e => by
    cases h with | cons r t =>
    cases r <;> first | (cases e; done) | skip
    rename_i k
    cases q : strsD ds with
    | none => simp [strsD, q] at e
    | some bs' =>
      simp [strsD, q] at e
      subst e
      rw [strs_rep t q]; rfl
theorem reps_strs {ua : Addr} {F : Hp} : ∀ xs : List Str, Reps K ct ua F (xs.map V.str) (xs.map D.str)
  | [] => .nil
  | x :: xs => .cons (.str x) (reps_strs xs)
theorem reps_ints {ua : Addr} {F : Hp} : ∀ xs : List Int, Reps K ct ua F (xs.map V.int) (xs.map D.int)
  | [] => .nil
  | x :: xs => .cons (.int x) (reps_ints xs)
def leS (a b : Str) : Bool := !PySem.Spec.ltCps b.cps.toList a.cps.toList
def insS (x : Str) : List Str → List Str
  | [] => [x]
  | y :: ys => if leS x y = true then x :: y :: ys else y :: insS x ys
def sortS (xs : List Str) : List Str := xs.foldr insS []
theorem leS_iff (a b : Str) : leS a b = true ↔ a.cps.toList ≤ b.cps.toList := by
  unfold leS
  rw [PyProof.Rows.ltCps_eq]
  simp [List.not_lt]
theorem leS_total (a b : Str) : leS a b = true ∨ leS b a = true := by
  rw [leS_iff, leS_iff]; exact List.le_total _ _
theorem leS_trans {a b c : Str} (h : leS a b = true) (h' : leS b c = true) : leS a c = true := by
  rw [leS_iff] at *; exact List.le_trans h h'
theorem leS_antisymm {a b : Str} (h : leS a b = true) (h' : leS b a = true) : a = b := by
  rw [leS_iff] at *
  have e := List.le_antisymm h h'
  cases a; cases b
  simpa using e
theorem insS_perm (x : Str) : ∀ ys : List Str, (insS x ys).Perm (x :: ys)
  | [] => .refl _
  | y :: ys => by
    unfold insS
    split
    · exact .refl _
    · exact ((insS_perm x ys).cons y).trans (.swap x y ys)
theorem sortS_perm : ∀ xs : List Str, (sortS xs).Perm xs
  | [] => .refl _
  | x :: xs => (insS_perm x (sortS xs)).trans ((sortS_perm xs).cons x)
theorem insS_sorted (x : Str) : ∀ ys : List Str, ys.Pairwise (fun a b => leS a b = true) → (insS x ys).Pairwise (fun a b => leS a b = true)
  | [], _ => by unfold insS; exact List.pairwise_singleton _ _
  | y :: ys, h => by
    unfold insS
    have h1 := List.pairwise_cons.mp h
    split
    · rename_i hx
      refine List.pairwise_cons.mpr ⟨fun z hz => ?_, h⟩
      rcases List.mem_cons.mp hz with e | e
      · rw [e]; exact hx
      · exact leS_trans hx (h1.1 z e)
    · rename_i hx
      refine List.pairwise_cons.mpr ⟨fun z hz => ?_, insS_sorted x ys h1.2⟩
      rcases List.mem_cons.mp ((insS_perm x ys).mem_iff.mp hz) with e | e
      · rw [e]; exact (leS_total x y).resolve_left hx
      · exact h1.1 z e
theorem sortS_sorted : ∀ xs : List Str, (sortS xs).Pairwise (fun a b => leS a b = true)
  | [] => .nil
  | x :: xs => insS_sorted x _ (sortS_sorted xs)
theorem risingS_pw : ∀ (ys : List Str) (p : Str), PyProof.Rows.risingS p ys = true → (p :: ys).Pairwise (fun a b => leS a b = true)
  | [], p, _ => List.pairwise_singleton _ _
  | y :: ys, p, h => by
    unfold PyProof.Rows.risingS at h
    obtain ⟨h1, h2⟩ := Bool.and_eq_true_iff.mp h
    have ih := risingS_pw ys y h2
    refine List.pairwise_cons.mpr ⟨fun z hz => ?_, ih⟩
    have hpy : leS p y = true := h1
    rcases List.mem_cons.mp hz with e | e
    · rw [e]; exact hpy
    · exact leS_trans hpy ((List.pairwise_cons.mp ih).1 z e)
theorem sortedS_eq {xs ys : List Str} (p : ys.Perm xs) (h : PyProof.Rows.sortedS ys = true) : ys = sortS xs := by
  have h1 : ys.Pairwise (fun a b => leS a b = true) := by
    cases ys with
    | nil => exact .nil
    | cons y r => exact risingS_pw r y h
  exact List.Perm.eq_of_pairwise (fun a b _ _ => leS_antisymm) h1 (sortS_sorted xs) (p.trans (sortS_perm xs).symm)
def insI (x : Int) : List Int → List Int
  | [] => [x]
  | y :: ys => if x ≤ y then x :: y :: ys else y :: insI x ys
def sortI (xs : List Int) : List Int := xs.foldr insI []
theorem insI_perm (x : Int) : ∀ ys : List Int, (insI x ys).Perm (x :: ys)
  | [] => .refl _
  | y :: ys => by
    unfold insI
    split
    · exact .refl _
    · exact ((insI_perm x ys).cons y).trans (.swap x y ys)
theorem sortI_perm : ∀ xs : List Int, (sortI xs).Perm xs
  | [] => .refl _
  | x :: xs => (insI_perm x (sortI xs)).trans ((sortI_perm xs).cons x)
theorem insI_sorted (x : Int) : ∀ ys : List Int, ys.Pairwise (· ≤ ·) → (insI x ys).Pairwise (· ≤ ·)
  | [], _ => by unfold insI; exact List.pairwise_singleton _ _
  | y :: ys, h => by
    unfold insI
    have h1 := List.pairwise_cons.mp h
    split
    · rename_i hx
      refine List.pairwise_cons.mpr ⟨fun z hz => ?_, h⟩
      rcases List.mem_cons.mp hz with e | e
      · rw [e]; exact hx
      · exact Int.le_trans hx (h1.1 z e)
    · rename_i hx
      refine List.pairwise_cons.mpr ⟨fun z hz => ?_, insI_sorted x ys h1.2⟩
      rcases List.mem_cons.mp ((insI_perm x ys).mem_iff.mp hz) with e | e
      · rw [e]; omega
      · exact h1.1 z e
theorem sortI_sorted : ∀ xs : List Int, (sortI xs).Pairwise (· ≤ ·)
  | [] => .nil
  | x :: xs => insI_sorted x _ (sortI_sorted xs)
theorem sortI_eq {xs ys : List Int} (p : ys.Perm xs) (h : ys.Pairwise (· ≤ ·)) : ys = sortI xs :=
  List.Perm.eq_of_pairwise (fun a b _ _ h1 h2 => Int.le_antisymm h1 h2) h (sortI_sorted xs) (p.trans (sortI_perm xs).symm)
def oSorted : List D → Option D
  | [.lst xs] => if xs.length < 64 then ((strsD xs).map fun ss => .lst ((sortS ss).map .str)).or ((intsD xs).map fun ns => .lst ((sortI ns).map .int)) else none
  | _ => none
abbrev rSortedX (K : PySem.W.Frag) : List V → Hp → VK → Prop := rcOr (rSortedS K) (rSorted K)
theorem cr_sortedX : CallR X (.builtin "sorted") (rSortedX X.K) := CallR.or' cr_sortedS cr_sorted
theorem rcp_sorted : RCp K ct (rSortedX K) oSorted := by
  intro ua F H u E vs xs Q b r q
  refine out_opt q fun d hd q2 => ?_
  match xs, hd with
  | [.lst ds], hd =>
    obtain ⟨v, rfl, r1⟩ := reps1 r
    cases r1 with | lst h1 h2 =>
    have hd : (if ds.length < 64 then ((strsD ds).map fun ss => D.lst ((sortS ss).map .str)).or ((intsD ds).map fun ns => .lst ((sortI ns).map .int)) else none) = some d := hd
    split at hd
    · rename_i hl
      cases e : strsD ds with
      | some ss =>
        rw [e] at hd; cases hd
        have ev := strs_rep h2 e
        have el := h2.length
        rw [ev, List.length_map] at el
        refine .inl ⟨_, ss, rfl, sq_of (b.ex _ _ (by rw [← ev]; exact h1)), by omega, fun ys p hp hs hn => ?_⟩
        have ey := sortedS_eq hp hs
        subst ey
        exact out.new b q2 hn (.lst upd_same (reps_strs _))
      | none =>
        rw [e] at hd
        cases e' : intsD ds with
        | none => rw [e'] at hd; cases hd
        | some ns =>
          rw [e'] at hd; cases hd
          have ev := ints_rep h2 e'
          have el := h2.length
          rw [ev, List.length_map] at el
          refine .inr ⟨_, ns, rfl, sq_of (b.ex _ _ (by rw [← ev]; exact h1)), by omega, fun ys p hp hs hn => ?_⟩
          have ey := sortI_eq hp hs
          subst ey
          exact out.new b q2 hn (.lst upd_same (reps_ints _))
    · cases hd
/-! int, str, abs -/
def oInt : List D → Option D
  | [.int i] => some (.int i)
  | [.bl b] => some (.int (if b then 1 else 0))
  | _ => none
theorem rcp_int : RCp K ct (fun xs H Q => (∃ i, xs = [.int i] ∧ Q (.int i) H) ∨ ∃ k, xs = [.bl k] ∧ Q (.int (if k then 1 else 0)) H) oInt := by
  intro ua F H u E vs xs Q b r q
  refine out_opt q fun d hd q2 => ?_
  match xs, hd with
  | [.int i], hd =>
    obtain ⟨v, rfl, r1⟩ := reps1 r
    cases r1; cases hd
    exact .inl ⟨i, rfl, out.ret b q2 (.int _)⟩
  | [.bl i], hd =>
    obtain ⟨v, rfl, r1⟩ := reps1 r
    cases r1; cases hd
    exact .inr ⟨i, rfl, out.ret b q2 (.int _)⟩
def oStr : List D → Option D
  | [.str s] => some (.str s)
  | [.int i] => if i.natAbs.log2 < 1920 then some (.str (toString i)) else none
  | _ => none
abbrev rStrX : List V → Hp → VK → Prop := rcOr (fun xs H Q => ∃ a, xs = [.str a] ∧ Q (.str a) H) (fun xs H Q => ∃ i, xs = [.int i] ∧ i.natAbs.log2 < 1920 ∧ Q (.str (toString i)) H)
theorem cr_str : CallR X (.type "str") rStrX := CallR.or' SkE.call_str_str call_str_int
theorem rcp_str : RCp K ct rStrX oStr := by
  intro ua F H u E vs xs Q b r q
  refine out_opt q fun d hd q2 => ?_
  match xs, hd with
  | [.str i], hd =>
    obtain ⟨v, rfl, r1⟩ := reps1 r
    cases r1; cases hd
    exact .inl ⟨i, rfl, out.ret b q2 (.str _)⟩
  | [.int i], hd =>
    obtain ⟨v, rfl, r1⟩ := reps1 r
    cases r1
    have hd : (if i.natAbs.log2 < 1920 then some (D.str (toString i)) else none) = some d := hd
    split at hd
    · rename_i hs; cases hd
      exact .inr ⟨i, rfl, hs, out.ret b q2 (.str _)⟩
    · cases hd
def oAbs : List D → Option D
  | [.int i] => some (.int (if i < 0 then -i else i))
  | _ => none
theorem rcp_abs : RCp K ct (fun xs H Q => ∃ i, xs = [.int i] ∧ Q (.int (if i < 0 then -i else i)) H) oAbs := by
  intro ua F H u E vs xs Q b r q
  refine out_opt q fun d hd q2 => ?_
  match xs, hd with
  | [.int i], hd =>
    obtain ⟨v, rfl, r1⟩ := reps1 r
    cases r1; cases hd
    exact ⟨i, rfl, out.ret b q2 (.int _)⟩
end
end Dl
set_option Elab.async false
set_option linter.all false
set_option maxRecDepth 100000
set_option maxHeartbeats 4000000
/-! Dl4: targets, what is walked, comprehensions, over data. -/
namespace Dl
open PySem L2 Evl

/-! ### targets -/
inductive Tg where
  | nm (i : Nat)
  | tp (is : List Nat)
def setAll : List Nat → List D → En → En
  | i :: is, d :: ds, ρ => setAll is ds (ρ.set i (.val d))
  | _, _, ρ => ρ
def bindT : Tg → D → En → Option En
  | .nm i, d, ρ => some (ρ.set i (.val d))
  | .tp is, .tup xs, ρ => chk (decide (xs.length = is.length)) (setAll is xs ρ)
  | .tp is, .lst xs, ρ => chk (decide (xs.length = is.length)) (setAll is xs ρ)
  | _, _, _ => none
def Tg.slots : Tg → List Nat
  | .nm i => [i]
  | .tp is => is
def gNames : List Nat → TGs
  | [] => gNil
  | i :: is => gCons (gName i) (gNames is)
def tgG (K : PySem.W.Frag) : Tg → TG
  | .nm i => gName i
  | .tp is => fun v σ H Q => gTup K is.length (gNames is) v σ H Q ∨ gLst K is.length (gNames is) v σ H Q
def setVs : List Nat → List V → St → St
  | i :: is, v :: vs, σ => setVs is vs (σ.set i (some v))
  | _, _, σ => σ
section
variable {K : PySem.W.Frag} {ct : Nat → Addr} {ua : Addr} {F F1 H H1 : Hp} {ρ ρ' : En} {u : U} {σ : St}
theorem RE.setv {i : Nat} {v : V} {d : D} (R : RE K ct ua F ρ u σ H) (r : Rep K ct ua F v d) : RE K ct ua F (ρ.set i (.val d)) u (σ.set i (some v)) H where
  toBs := R.toBs
  len := by rw [List.length_set, List.length_set]; exact R.len
  vals := fun j d' e => by
    by_cases h : i = j
    · subst h
      have hl : i < ρ.length := by
        have := (List.getElem?_eq_some_iff.mp e).1
        simpa using this
      rw [List.getElem?_set_self hl] at e
      cases e
      exact ⟨v, List.getElem?_set_self (by rw [R.len]; exact hl), r⟩
    · rw [List.getElem?_set_ne h] at e
      obtain ⟨w, h1, h2⟩ := R.vals j d' e
      exact ⟨w, by rw [List.getElem?_set_ne h]; exact h1, h2⟩
  owns := fun j d' e => by
    by_cases h : i = j
    · subst h
      have hl : i < ρ.length := by
        have := (List.getElem?_eq_some_iff.mp e).1
        simpa using this
      rw [List.getElem?_set_self hl] at e
      cases e
    · rw [List.getElem?_set_ne h] at e
      obtain ⟨w, h1, h2⟩ := R.owns j d' e
      exact ⟨w, by rw [List.getElem?_set_ne h]; exact h1, h2⟩
theorem RE.setAll {is : List Nat} : ∀ {vs : List V} {ds : List D} {ρ : En} {σ : St}, RE K ct ua F ρ u σ H → Reps K ct ua F vs ds → RE K ct ua F (Dl.setAll is ds ρ) u (setVs is vs σ) H := by
  induction is with
  | nil =>
    intro vs ds ρ σ R r
    have e1 : Dl.setAll [] ds ρ = ρ := by cases ds <;> rfl
    have e2 : setVs [] vs σ = σ := by cases vs <;> rfl
    rw [e1, e2]; exact R
  | cons i is ih =>
    intro vs ds ρ σ R r
    cases r with
    | nil => exact R
    | cons r t => exact ih (R.setv r) t
theorem gNames_run : ∀ {is : List Nat} {vs : List V} {σ : St} {H : Hp} {Q : St → Hp → Prop}, vs.length = is.length → Q (setVs is vs σ) H → gNames is vs σ H Q
  | [], [], σ, H, Q, _, q => ⟨rfl, q⟩
  | i :: is, v :: vs, σ, H, Q, h, q => ⟨v, vs, rfl, gNames_run (is := is) (vs := vs) (by simpa using h) q⟩
/-- the slots that a target stores -/
def stored (tg : Tg) (v : V) (H : Hp) (σ σ' : St) : Prop := match tg with
  | .nm i => σ' = σ.set i (some v)
  | .tp is => ∃ vs, σ' = setVs is vs σ
theorem tgG_run {tg : Tg} {v : V} {x : D} {Q : St → Hp → Prop} (hb : bindT tg x ρ = some ρ') (R : RE K ct ua F ρ u σ H) (r : Rep K ct ua F v x) (q : ∀ σ', stored tg v H σ σ' → RE K ct ua F ρ' u σ' H → Q σ' H) : tgG K tg v σ H Q := by
  cases tg with
  | nm i =>
    cases hb
    exact q _ rfl (R.setv r)
  | tp is =>
    cases r <;> first | (cases hb; done) | skip
    · rename_i a vs ds h1 h2
      obtain ⟨hl, e⟩ := chk_some hb
      subst e
      have hl := of_decide_eq_true hl
      have hl2 := h2.length
      exact .inr ⟨a, vs, rfl, sq_of (R.ex _ _ h1), by omega, gNames_run (by omega) (q _ ⟨vs, rfl⟩ (R.setAll h2))⟩
    · rename_i a vs ds h1 h2
      obtain ⟨hl, e⟩ := chk_some hb
      subst e
      have hl := of_decide_eq_true hl
      have hl2 := h2.length
      exact .inl ⟨a, vs, rfl, ex_t R.ex h1, by omega, gNames_run (by omega) (q _ ⟨vs, rfl⟩ (R.setAll h2))⟩
/-! the slots of a block -/
theorem wipe_get (vs : List Nat) : ∀ (σ : St) (j : Nat), (wipe σ vs)[j]? = if j ∈ vs then (σ[j]?).map (fun _ => none) else σ[j]? := by
  induction vs with
  | nil => intro σ j; simp [wipe]
  | cons v vs ih =>
    intro σ j
    unfold wipe
    by_cases e : v = j
    · subst e
      rw [List.getElem?_set, if_pos rfl, if_pos List.mem_cons_self, wipe_length]
      by_cases h : v < σ.length
      · rw [if_pos h, List.getElem?_eq_getElem h]; rfl
      · rw [if_neg h, List.getElem?_eq_none (by omega)]; rfl
    · rw [List.getElem?_set_ne e, ih]
      simp only [List.mem_cons, show ¬ j = v from fun h => e h.symm, false_or]
theorem wipe_set {vs : List Nat} {i : Nat} (x : Option V) (h : i ∈ vs) (σ : St) : wipe (σ.set i x) vs = wipe σ vs := by
  refine List.ext_getElem? fun j => ?_
  rw [wipe_get, wipe_get]
  by_cases e : i = j
  · subst e
    rw [if_pos h, if_pos h, List.getElem?_set, if_pos rfl]
    by_cases hl : i < σ.length
    · rw [if_pos hl, List.getElem?_eq_getElem hl]; rfl
    · rw [if_neg hl, List.getElem?_eq_none (by omega)]
  · rw [List.getElem?_set_ne e]
theorem wipe_wipe (vs : List Nat) (σ : St) : wipe (wipe σ vs) vs = wipe σ vs := by
  refine List.ext_getElem? fun j => ?_
  rw [wipe_get, wipe_get]
  by_cases e : j ∈ vs
  · rw [if_pos e, if_pos e]
    cases σ[j]? <;> rfl
  · rw [if_neg e, if_neg e]
theorem wipe_setVs {vs : List Nat} : ∀ (is : List Nat) (ws : List V) (σ : St), (∀ i ∈ is, i ∈ vs) → wipe (setVs is ws σ) vs = wipe σ vs
  | [], ws, σ, _ => by cases ws <;> rfl
  | i :: is, [], σ, _ => rfl
  | i :: is, w :: ws, σ, h => by
    show wipe (setVs is ws (σ.set i (some w))) vs = wipe σ vs
    rw [wipe_setVs is ws _ fun j hj => h j (List.mem_cons_of_mem _ hj), wipe_set _ (h i List.mem_cons_self)]
theorem wipe_stored {vs : List Nat} {tg : Tg} {v : V} {σ σ' : St} (h : stored tg v H σ σ') (hs : ∀ i ∈ tg.slots, i ∈ vs) : wipe σ' vs = wipe σ vs := by
  cases tg with
  | nm i =>
    obtain rfl : σ' = σ.set i (some v) := h
    exact wipe_set _ (hs i List.mem_cons_self) σ
  | tp is =>
    obtain ⟨ws, rfl⟩ := h
    exact wipe_setVs is ws σ hs
def wipeE (ρ : En) : List Nat → En
  | [] => ρ
  | v :: vs => (wipeE ρ vs).set v .no
theorem RE.setn {i : Nat} (R : RE K ct ua F ρ u σ H) : RE K ct ua F (ρ.set i .no) u (σ.set i none) H where
  toBs := R.toBs
  len := by rw [List.length_set, List.length_set]; exact R.len
  vals := fun j d' e => by
    by_cases h : i = j
    · subst h
      have hl : i < ρ.length := by
        have := (List.getElem?_eq_some_iff.mp e).1
        simpa using this
      rw [List.getElem?_set_self hl] at e
      cases e
    · rw [List.getElem?_set_ne h] at e
      obtain ⟨w, h1, h2⟩ := R.vals j d' e
      exact ⟨w, by rw [List.getElem?_set_ne h]; exact h1, h2⟩
  owns := fun j d' e => by
    by_cases h : i = j
    · subst h
      have hl : i < ρ.length := by
        have := (List.getElem?_eq_some_iff.mp e).1
        simpa using this
      rw [List.getElem?_set_self hl] at e
      cases e
    · rw [List.getElem?_set_ne h] at e
      obtain ⟨w, h1, h2⟩ := R.owns j d' e
      exact ⟨w, by rw [List.getElem?_set_ne h]; exact h1, h2⟩
theorem RE.wipe (R : RE K ct ua F ρ u σ H) : ∀ vs : List Nat, RE K ct ua F (wipeE ρ vs) u (L2.wipe σ vs) H
  | [] => R
  | v :: vs => (RE.wipe R vs).setn

/-! ### what is walked -/
/-- the iterator J walks the items xs -/
structure Walks (K : PySem.W.Frag) (ct : Nat → Addr) (ua : Addr) (F : Hp) (J : It) (xs : List D) : Prop where
  stop : ∀ F' H, Ex F F' → Ex F' H → J.stop xs.length H
  go : ∀ i F' H, i < xs.length → Ex F F' → Ex F' H → J.go i H
  yld : ∀ i x v F' u H H', xs[i]? = some x → Ex F F' → Bs ua F' u H → J.yld i H v H' → ∃ F'', Stp ua F' H F'' H' ∧ Urn ua u H' ∧ Rep K ct ua F'' v x
theorem Walks.mono {J : It} {xs : List D} (e : Ex F F1) (W : Walks K ct ua F J xs) : Walks K ct ua F1 J xs :=
  ⟨fun F' H h1 h2 => W.stop F' H (e.trans h1) h2, fun i F' H hi h1 h2 => W.go i F' H hi (e.trans h1) h2, fun i x v F' u H H' hx h1 => W.yld i x v F' u H H' hx (e.trans h1)⟩
end
abbrev rI (K : PySem.W.Frag) (ct : Nat → Addr) : Addr → Hp → It → List D → Prop := fun ua F J xs => Walks K ct ua F J xs
abbrev DI := En → M (List D)
def PDI (X : Cx) (ct : Nat → Addr) (E : St → XK) (tg iter : Expr) (f : DI) : Prop := PI X tg iter (tG X.K ct (rI X.K ct) E f)
section
variable {X : Cx} {ct : Nat → Addr} {E : St → XK} {tg : Expr}
theorem PI.imp {iter : Expr} {t t' : TI} (h : PI X tg iter t) (k : ∀ σ H Q, t' σ H Q → t σ H Q) : PI X tg iter t' := ⟨fun pins s σ H Q I q => h.run pins s σ H Q I (k σ H Q q)⟩
theorem PI.or {iter : Expr} {t t' : TI} (h : PI X tg iter t) (h' : PI X tg iter t') : PI X tg iter (fun σ H Q => t σ H Q ∨ t' σ H Q) :=
  ⟨fun pins s σ H Q I q => q.elim (h.run pins s σ H Q I) (h'.run pins s σ H Q I)⟩
theorem walks_list {K : PySem.W.Frag} {ua : Addr} {F : Hp} {a : Addr} {vs : List V} {xs : List D} (h : F a = some (.lst vs)) (r : Reps K ct ua F vs xs) : Walks K ct ua F (Itl K a) xs where
  stop := fun F' H e1 e2 => ⟨vs, sq_of (e2 _ _ (e1 _ _ h)), by rw [r.length]; exact Nat.le_refl _⟩
  go := fun i F' H hi e1 e2 => by
    have hl : i < vs.length := by rw [r.length]; exact hi
    exact ⟨vs, vs[i], sq_of (e2 _ _ (e1 _ _ h)), List.getElem?_eq_getElem hl⟩
  yld := fun i x v F' u H H' hx e1 b y => by
    obtain ⟨rfl, y⟩ := y
    obtain ⟨w, h1, h2⟩ := r.get' hx
    have e := y vs (sq_of (b.ex _ _ (e1 _ _ h)))
    rw [h1] at e; cases e
    exact ⟨F', Stp.refl b, b.urn, h2.mono e1⟩
theorem walks_tup {K : PySem.W.Frag} {ua : Addr} {F : Hp} {a : Addr} {vs : List V} {xs : List D} (h : SqT K F a vs) (r : Reps K ct ua F vs xs) : Walks K ct ua F (Itt K a) xs where
  stop := fun F' H e1 e2 => ⟨vs, ex_t e2 (ex_t e1 h), by rw [r.length]; exact Nat.le_refl _⟩
  go := fun i F' H hi e1 e2 => by
    have hl : i < vs.length := by rw [r.length]; exact hi
    exact ⟨vs, vs[i], ex_t e2 (ex_t e1 h), List.getElem?_eq_getElem hl⟩
  yld := fun i x v F' u H H' hx e1 b y => by
    obtain ⟨rfl, y⟩ := y
    obtain ⟨w, h1, h2⟩ := r.get' hx
    have e := y vs (ex_t b.ex (ex_t e1 h))
    rw [h1] at e; cases e
    exact ⟨F', Stp.refl b, b.urn, h2.mono e1⟩
def itemsD : D → Option (List D)
  | .lst xs => some xs
  | .tup xs => some xs
  | _ => none
def dItems (f : DE) : DI := fun ρ => bnd (f ρ) fun x => opt (itemsD x)
/-- for .. in a list or tuple -/
theorem pdi_seq {e : Expr} {f : DE} (he : PD X ct E e f) : PDI X ct E tg e (dItems f) := by
  refine PI.imp (PI.or (pi_list he) (pi_tup he)) fun σ H Q ⟨ua, F, ρ, u, R, q⟩ => ?_
  unfold dItems bnd at q
  cases hf : f ρ u with
  | ok x u1 =>
    rw [hf] at q
    cases hx : itemsD x with
    | none =>
      have q : out X.K ct (rI X.K ct) ua F H (E σ) (opt (itemsD x) u1) Q := q
      rw [hx] at q
      exact (show False from q).elim
    | some xs =>
      have q : out X.K ct (rI X.K ct) ua F H (E σ) (opt (itemsD x) u1) Q := q
      rw [hx] at q
      cases x <;> first | (cases hx; done) | skip
      · cases hx
        refine .inl ⟨ua, F, ρ, u, R, ?_⟩
        rw [hf]
        intro F1 v H1 s hu r
        cases r with | lst h1 h2 =>
        exact ⟨_, rfl, ⟨_, sq_of (s.exH _ _ h1)⟩, q F1 _ H1 s hu (walks_list h1 h2)⟩
      · cases hx
        refine .inr ⟨ua, F, ρ, u, R, ?_⟩
        rw [hf]
        intro F1 v H1 s hu r
        cases r with | tup h1 h2 =>
        exact ⟨_, rfl, ⟨_, ex_t s.exH h1⟩, q F1 _ H1 s hu (walks_tup h1 h2)⟩
  | exc c gs u1 =>
    rw [hf] at q
    refine .inl ⟨ua, F, ρ, u, R, ?_⟩
    rw [hf]
    exact q
  | no =>
    rw [hf] at q
    exact (show False from q).elim
/-! range -/
def rngD (lo : Int) (n : Nat) : List D := (List.range n).map fun (i : Nat) => .int (lo + (i : Int))
theorem rng_len (lo : Int) (n : Nat) : (rngD lo n).length = n := by unfold rngD; rw [List.length_map, List.length_range]
theorem walks_rng {K : PySem.W.Frag} {ua : Addr} {F : Hp} {lo : Int} {n : Nat} : Walks K ct ua F (Itr lo n) (rngD lo n) where
  stop := fun F' H e1 e2 => by
    show n ≤ (rngD lo n).length
    rw [rng_len]; exact Nat.le_refl _
  go := fun i F' H hi e1 e2 => by
    rw [rng_len] at hi; exact hi
  yld := fun i x v F' u H H' hx e1 b y => by
    obtain ⟨rfl, rfl⟩ := y
    unfold rngD at hx
    rw [List.getElem?_map] at hx
    have hi : i < n := by
      cases h : (List.range n)[i]? with
      | none => rw [h] at hx; cases hx
      | some j => have := (List.getElem?_eq_some_iff.mp h).1; simpa using this
    rw [List.getElem?_range hi] at hx
    cases hx
    exact ⟨F', Stp.refl b, b.urn, .int _⟩
def oRng1 : List D → Option (List D)
  | [.int j] => chk (decide (-100000 ≤ j ∧ j ≤ 100000)) (rngD 0 j.toNat)
  | _ => none
def oRng2 : List D → Option (List D)
  | [.int i, .int j] => chk (decide (-100000 ≤ i ∧ i ≤ 100000 ∧ -100000 ≤ j ∧ j ≤ 100000)) (rngD i (j - i).toNat)
  | _ => none
def dRng1 (g : DA) : DI := fun ρ => bnd (g ρ) fun xs => opt (oRng1 xs)
def dRng2 (g : DA) : DI := fun ρ => bnd (g ρ) fun xs => opt (oRng2 xs)
theorem pdi_rng1 {a : Expr} {g : DA} {p pos : Pos} (hg : Gl X "range") (hm : X.mg "range" = none) (ha : PDA X ct E [a] g) (hs : starEach [a] X.env = [(false, eval a X.env)] := by rfl) : PDI X ct E tg (.Call (.Name "range" p) [a] [] pos) (dRng1 g) := by
  refine PI.imp (pi_range1 hg hm ha hs) fun σ H Q ⟨ua, F, ρ, u, R, q⟩ => ?_
  refine tG_bind R q fun F1 vs H1 xs u1 s1 R1 r1 q1 => ?_
  refine out_opt q1 fun d hd q2 => ?_
  match xs, hd with
  | [.int j], hd =>
    obtain ⟨v, rfl, rv⟩ := reps1 r1
    cases rv
    obtain ⟨hj, rfl⟩ := chk_some (show chk (decide (-100000 ≤ j ∧ j ≤ 100000)) (rngD 0 j.toNat) = some d from hd)
    have hj := of_decide_eq_true hj
    exact ⟨j, rfl, by omega, by omega, out.ret R1.toBs q2 walks_rng⟩
theorem pdi_rng2 {a a' : Expr} {g : DA} {p pos : Pos} (hg : Gl X "range") (hm : X.mg "range" = none) (ha : PDA X ct E [a, a'] g) (hs : starEach [a, a'] X.env = [(false, eval a X.env), (false, eval a' X.env)] := by rfl) (hs2 : starEach [a'] X.env = [(false, eval a' X.env)] := by rfl) :
    PDI X ct E tg (.Call (.Name "range" p) [a, a'] [] pos) (dRng2 g) := by
  refine PI.imp (pi_range2 hg hm ha hs hs2) fun σ H Q ⟨ua, F, ρ, u, R, q⟩ => ?_
  refine tG_bind R q fun F1 vs H1 xs u1 s1 R1 r1 q1 => ?_
  refine out_opt q1 fun d hd q2 => ?_
  match xs, hd with
  | [.int i, .int j], hd =>
    obtain ⟨v, w, rfl, rv, rw⟩ := reps2 r1
    cases rv
    cases rw
    obtain ⟨hj, rfl⟩ := chk_some (show chk (decide (-100000 ≤ i ∧ i ≤ 100000 ∧ -100000 ≤ j ∧ j ≤ 100000)) (rngD i (j - i).toNat) = some d from hd)
    have hj := of_decide_eq_true hj
    exact ⟨i, j, rfl, ⟨by omega, by omega, by omega, by omega⟩, out.ret R1.toBs q2 walks_rng⟩
/-! enumerate of a list -/
def enumD : Nat → List D → List D
  | _, [] => []
  | i, x :: xs => .tup [.int i, x] :: enumD (i + 1) xs
theorem enum_len : ∀ (xs : List D) (i : Nat), (enumD i xs).length = xs.length
  | [], _ => rfl
  | x :: xs, i => by show (enumD (i + 1) xs).length + 1 = xs.length + 1; rw [enum_len xs]
theorem enum_get : ∀ (xs : List D) (i j : Nat), (enumD i xs)[j]? = (xs[j]?).map fun x => .tup [.int ((i + j : Nat) : Int), x]
  | [], _, _ => by simp [enumD]
  | x :: xs, i, 0 => by simp [enumD]
  | x :: xs, i, j + 1 => by
    show (enumD (i + 1) xs)[j]? = _
    rw [enum_get xs]
    simp only [List.getElem?_cons_succ]
    rw [show i + 1 + j = i + (j + 1) by omega]
theorem walks_enum {K : PySem.W.Frag} {ua : Addr} {F : Hp} {a : Addr} {vs : List V} {xs : List D} (h : F a = some (.lst vs)) (r : Reps K ct ua F vs xs) : Walks K ct ua F (Ite K a) (enumD 0 xs) where
  stop := fun F' H e1 e2 => ⟨vs, sq_of (e2 _ _ (e1 _ _ h)), by rw [r.length, enum_len]; exact Nat.le_refl _⟩
  go := fun i F' H hi e1 e2 => by
    rw [enum_len] at hi
    have hl : i < vs.length := by rw [r.length]; exact hi
    exact ⟨vs, vs[i], sq_of (e2 _ _ (e1 _ _ h)), List.getElem?_eq_getElem hl⟩
  yld := fun i x v F' u H H' hx e1 b y => by
    obtain ⟨T, z, rfl, hT, rfl, y⟩ := y
    rw [enum_get] at hx
    cases hy : xs[i]? with
    | none => rw [hy] at hx; cases hx
    | some d =>
      rw [hy] at hx
      simp only [Option.map_some, Nat.zero_add] at hx
      cases hx
      obtain ⟨w, h1, h2⟩ := r.get' hy
      have e := y vs (sq_of (b.ex _ _ (e1 _ _ h)))
      rw [h1] at e; have e := Option.some.inj e; subst e
      have ex : Ex F' (upd F' T (.tup [.int (i : Nat), w])) := Ex.new (fresh_back b.ex hT)
      exact ⟨_, Stp.new b hT, (Bs.new b hT).urn, .tup (st_of upd_same) (.cons (.int _) (.cons ((h2.mono e1).mono ex) .nil))⟩
def oLs1 : List D → Option (List D)
  | [.lst xs] => some xs
  | _ => none
def dEnum (g : DA) : DI := fun ρ => bnd (g ρ) fun xs => opt ((oLs1 xs).map (enumD 0))
theorem pdi_enum {a : Expr} {g : DA} {p pos tpos : Pos} {elts : List Expr} {kk : Nat} (hg : Gl X "enumerate") (hm : X.mg "enumerate" = none) (ha : PDA X ct E [a] g) (hs : starEach [a] X.env = [(false, eval a X.env)] := by rfl) : PDI X ct E (.Tuple elts kk tpos) (.Call (.Name "enumerate" p) [a] [] pos) (dEnum g) := by
  refine PI.imp (pi_enum hg hm ha hs) fun σ H Q ⟨ua, F, ρ, u, R, q⟩ => ?_
  refine tG_bind R q fun F1 vs H1 xs u1 s1 R1 r1 q1 => ?_
  refine out_opt q1 fun d hd q2 => ?_
  match xs, hd with
  | [.lst ys], hd =>
    obtain ⟨v, rfl, rv⟩ := reps1 r1
    cases rv with | lst h1 h2 =>
    cases hd
    exact ⟨_, _, rfl, sq_of (R1.ex _ _ h1), out.ret R1.toBs q2 (walks_enum h1 h2)⟩
/-! zip of two lists -/
def zipD : List D → List D → List D
  | x :: xs, y :: ys => .tup [x, y] :: zipD xs ys
  | _, _ => []
theorem zip_len : ∀ (xs ys : List D), (zipD xs ys).length = min xs.length ys.length
  | [], ys => by cases ys <;> simp [zipD]
  | x :: xs, [] => by simp [zipD]
  | x :: xs, y :: ys => by
    show (zipD xs ys).length + 1 = _
    rw [zip_len xs ys]
    simp only [List.length_cons]
    omega
theorem zip_get : ∀ (xs ys : List D) (j : Nat) (d : D), (zipD xs ys)[j]? = some d → ∃ x y, xs[j]? = some x ∧ ys[j]? = some y ∧ d = .tup [x, y]
  | [], ys, j, d, h => by cases ys <;> simp [zipD] at h
  | x :: xs, [], j, d, h => by simp [zipD] at h
  | x :: xs, y :: ys, 0, d, h => by simp [zipD] at h; exact ⟨x, y, rfl, rfl, h.symm⟩
  | x :: xs, y :: ys, j + 1, d, h => by
    obtain ⟨a, b, h1, h2, h3⟩ := zip_get xs ys j d (by simpa [zipD] using h)
    exact ⟨a, b, by simpa using h1, by simpa using h2, h3⟩
theorem walks_zip {K : PySem.W.Frag} {ua : Addr} {F : Hp} {a a' : Addr} {vs vs' : List V} {xs ys : List D} (h : F a = some (.lst vs)) (r : Reps K ct ua F vs xs) (h' : F a' = some (.lst vs')) (r' : Reps K ct ua F vs' ys) : Walks K ct ua F (Itz K a a') (zipD xs ys) where
  stop := fun F' H e1 e2 => ⟨vs, vs', sq_of (e2 _ _ (e1 _ _ h)), sq_of (e2 _ _ (e1 _ _ h')), by rw [r.length, r'.length, zip_len]; omega⟩
  go := fun i F' H hi e1 e2 => by
    rw [zip_len] at hi
    have hl : i < vs.length := by rw [r.length]; omega
    have hl' : i < vs'.length := by rw [r'.length]; omega
    exact ⟨vs, vs', vs[i], vs'[i], sq_of (e2 _ _ (e1 _ _ h)), sq_of (e2 _ _ (e1 _ _ h')), List.getElem?_eq_getElem hl, List.getElem?_eq_getElem hl'⟩
  yld := fun i x v F' u H H' hx e1 b y => by
    obtain ⟨T, z, z', rfl, hT, rfl, y, y'⟩ := y
    obtain ⟨d, d', hd, hd', rfl⟩ := zip_get _ _ _ _ hx
    obtain ⟨w, h1, h2⟩ := r.get' hd
    obtain ⟨w', h1', h2'⟩ := r'.get' hd'
    have e := y vs (sq_of (b.ex _ _ (e1 _ _ h)))
    rw [h1] at e; have e := Option.some.inj e; subst e
    have e' := y' vs' (sq_of (b.ex _ _ (e1 _ _ h')))
    rw [h1'] at e'; have e' := Option.some.inj e'; subst e'
    have ex : Ex F' (upd F' T (.tup [w, w'])) := Ex.new (fresh_back b.ex hT)
    exact ⟨_, Stp.new b hT, (Bs.new b hT).urn, .tup (st_of upd_same) (.cons ((h2.mono e1).mono ex) (.cons ((h2'.mono e1).mono ex) .nil))⟩
def oLs2 : List D → Option (List D)
  | [.lst xs, .lst ys] => some (zipD xs ys)
  | _ => none
def dZip (g : DA) : DI := fun ρ => bnd (g ρ) fun xs => opt (oLs2 xs)
theorem pdi_zip {a a2 : Expr} {g : DA} {p pos tpos : Pos} {elts : List Expr} {kk : Nat} (hg : Gl X "zip") (hm : X.mg "zip" = none) (ha : PDA X ct E [a, a2] g)
    (hs : starEach [a, a2] X.env = (false, eval a X.env) :: starEach [a2] X.env := by rfl) (hpl : (backTo pos (starEach [a2] X.env)).any (·.1) = false := by rfl) : PDI X ct E (.Tuple elts kk tpos) (.Call (.Name "zip" p) [a, a2] [] pos) (dZip g) := by
  refine PI.imp (pi_zip hg hm ha hs hpl) fun σ H Q ⟨ua, F, ρ, u, R, q⟩ => ?_
  refine tG_bind R q fun F1 vs H1 xs u1 s1 R1 r1 q1 => ?_
  refine out_opt q1 fun d hd q2 => ?_
  match xs, hd with
  | [.lst ys, .lst zs], hd =>
    obtain ⟨v, w, rfl, rv, rw⟩ := reps2 r1
    cases rv with | lst h1 h2 =>
    cases rw with | lst h1' h2' =>
    cases hd
    exact ⟨_, _, _, _, rfl, sq_of (R1.ex _ _ h1), sq_of (R1.ex _ _ h1'), out.ret R1.toBs q2 (walks_zip h1 h2 h1' h2')⟩
/-! the signs of a text -/
def signsD (z : Str) : List D := z.cps.toList.map fun c => .str ⟨#[c]⟩
theorem walks_str {K : PySem.W.Frag} {ua : Addr} {F : Hp} {z : Str} : Walks K ct ua F (Its z) (signsD z) where
  stop := fun F' H e1 e2 => by
    show z.cps.size ≤ (signsD z).length
    unfold signsD; rw [List.length_map, Array.length_toList]; exact Nat.le_refl _
  go := fun i F' H hi e1 e2 => by
    unfold signsD at hi; rw [List.length_map, Array.length_toList] at hi; exact hi
  yld := fun i x v F' u H H' hx e1 b y => by
    unfold signsD at hx
    rw [List.getElem?_map] at hx
    obtain ⟨rfl, c, hc, rfl⟩ := y
    rw [Array.getElem?_toList, hc] at hx
    cases hx
    exact ⟨F', Stp.refl b, b.urn, .str _⟩
def dSigns (f : DE) : DI := fun ρ => bnd (f ρ) fun x => match x with
  | .str z => ret (signsD z)
  | _ => stuck
theorem pdi_str {e : Expr} {f : DE} (he : PD X ct E e f) : PDI X ct E tg e (dSigns f) := by
  refine PI.imp (pi_str he) fun σ H Q ⟨ua, F, ρ, u, R, q⟩ => ?_
  refine tG_bind R q fun F1 v H1 x u1 s1 R1 r1 q1 => ?_
  cases r1 <;> first | exact (show False from q1).elim | skip
  exact ⟨_, rfl, out.ret R1.toBs q1 walks_str⟩
end
end Dl
set_option Elab.async false
set_option linter.all false
set_option maxRecDepth 100000
set_option maxHeartbeats 4000000
/-! Dl5: comprehensions over data. -/
namespace Dl
open PySem L2 Evl

/-- what raises is stuck (within a comprehension's block nothing may be raised) -/
def nx {α : Type} (m : M α) : M α := fun u => match m u with
  | .ok a u' => .ok a u'
  | _ => .no
theorem nx_ok {α : Type} {m : M α} {u u' : U} {a : α} (h : m u = .ok a u') : nx m u = .ok a u' := by unfold nx; rw [h]
theorem nx_ret {α : Type} (a : α) : nx (ret a) = ret a := rfl
theorem bnd_assoc {α β γ : Type} (m : M α) (f : α → M β) (g : β → M γ) : bnd (bnd m f) g = bnd m fun x => bnd (f x) g := by
  funext u
  unfold bnd
  cases m u <;> rfl
abbrev E0' : St → XK := fun _ _ _ _ => False
def PDTs (X : Cx) (ct : Nat → Addr) (E : St → XK) (es : List Expr) (f : DB) : Prop := PTs X es (tG X.K ct rB E f)
def dYes : DB := fun _ => ret true
section
variable {K : PySem.W.Frag} {ct : Nat → Addr} {ua : Addr} {F F1 F2 Fb H H1 H2 Hb : Hp} {ρ ρ' : En} {u u1 u2 : U} {σ : St}
theorem tG_nx {α β γ : Type} {rel : Addr → Hp → β → α → Prop} {f : En → M α} {g : α → M γ} {Φ : Res γ → Prop} (hno : ¬ Φ .no) {Q1 : β → Hp → Prop} (R : RE K ct ua F ρ u σ H) (h : Φ (bnd (nx (f ρ)) g u))
    (k : ∀ F1 v H1 x u1, Stp ua F H F1 H1 → RE K ct ua F1 ρ u1 σ H1 → rel ua F1 v x → Φ (g x u1) → Q1 v H1) : tG K ct rel E0' f σ H Q1 := by
  refine ⟨ua, F, ρ, u, R, ?_⟩
  unfold bnd nx at h
  cases e : f ρ u with
  | ok x u1 =>
    rw [e] at h
    exact fun F1 v H1 s hu r => k F1 v H1 x u1 s (R.step s hu) r h
  | exc c gs u1 => rw [e] at h; exact (hno h).elim
  | no => rw [e] at h; exact (hno h).elim
/-- a comprehension on its way: D the new object, its content o -/
structure LcI (ua : Addr) (F1 H1 : Hp) (D : Addr) (F H : Hp) (u : U) (o : HO) : Prop where
  st : Stp ua F1 H1 F H
  urn : Urn ua u H
  nd : F D = none
  hd : H D = some o
  nn : H1 D = none
theorem LcI.bs {D : Addr} {o : HO} (L : LcI ua F1 H1 D F H u o) : Bs ua F u H := L.st.bs L.urn
theorem LcI.init {D : Addr} {o : HO} (b : Bs ua F1 u H1) (hD : H1 D = none) : LcI ua F1 H1 D F1 (upd H1 D o) u o where
  st := Stp.skip b (b.ex.trans (Ex.new hD)) fun a w _ h => by rw [upd_ne (ne_of_none h hD)]; exact h
  urn := by show upd H1 D o ua = _; rw [upd_ne (ne_of_none b.urn hD)]; exact b.urn
  nd := fresh_back b.ex hD
  hd := upd_same
  nn := hD
theorem LcI.ne {D : Addr} {o : HO} (L : LcI ua F1 H1 D F H u o) (h1 : Urn ua u1 H1) : D ≠ ua := fun e => by
  have := L.nn
  rw [e, h1] at this
  cases this
theorem LcI.step {D : Addr} {o : HO} (L : LcI ua F1 H1 D F H u o) (h1 : Urn ua u1 H1) (s : Stp ua F H F2 H2) (hu : Urn ua u2 H2) : LcI ua F1 H1 D F2 H2 u2 o where
  st := L.st.trans s
  urn := hu
  nd := by
    cases q : F2 D with
    | none => rfl
    | some w =>
      rcases s.fr D w q with z | z
      · rw [L.nd] at z; cases z
      · rw [L.hd] at z; cases z
  hd := s.kp D _ (L.ne h1) L.hd
  nn := L.nn
theorem LcI.put {D : Addr} {o o' : HO} (L : LcI ua F1 H1 D F H u o) (h1 : Urn ua u1 H1) : LcI ua F1 H1 D F (upd H D o') u o' where
  st := by
    refine ⟨L.st.exF, fun a w h => ?_, L.st.nu, fun a w n h => ?_, L.st.fr⟩
    · rw [upd_ne (ne_of_none h L.nd)]; exact L.st.exH a w h
    · rw [upd_ne (ne_of_none h L.nn)]; exact L.st.kp a w n h
  urn := by show upd H D o' ua = _; rw [upd_ne (L.ne h1).symm]; exact L.urn
  nd := L.nd
  hd := upd_same
  nn := L.nn
theorem LcI.done {D : Addr} {o : HO} (L : LcI ua F1 H1 D F H u o) (h1 : Urn ua u1 H1) : Stp ua F1 H1 (upd F D o) H := by
  refine ⟨L.st.exF.trans (Ex.new L.nd), fun a w h => ?_, ?_, L.st.kp, fun a w h => ?_⟩
  · by_cases e : a = D
    · rw [e, upd_same] at h; rw [e, L.hd]; exact h
    · rw [upd_ne e] at h; exact L.st.exH a w h
  · rw [upd_ne (L.ne h1).symm]; exact L.st.nu
  · by_cases e : a = D
    · rw [e]; exact .inr L.nn
    · rw [upd_ne e] at h; exact L.st.fr a w h

/-! ### [e for tg in xs if t] -/
def dLcGo (tg : Tg) (t : DB) (e : DE) (ρ0 : En) : List D → M (List D)
  | [] => ret []
  | x :: xs => bnd (opt (bindT tg x ρ0)) fun ρ1 => bnd (nx (t ρ1)) fun b => if b = true then bnd (nx (e ρ1)) fun y => bnd (dLcGo tg t e ρ0 xs) fun ys => ret (y :: ys) else dLcGo tg t e ρ0 xs
def dLc (fi : DI) (tg : Tg) (t : DB) (e : DE) (vs : List Nat) : DE := fun ρ => bnd (fi ρ) fun xs => bnd (opt (chk (small xs.length) ())) fun _ => bnd (dLcGo tg t e (wipeE ρ vs) xs) fun ys => ret (.lst ys)
theorem drop_cons {α : Type} {xs : List α} {i : Nat} (h : i < xs.length) : xs.drop i = xs[i] :: xs.drop (i + 1) := List.drop_eq_getElem_cons h
theorem lc_go {Φ : Res D → Prop} (hno : ¬ Φ .no) {tg : Tg} {t : DB} {e : DE} {vs : List Nat} {J : It} {xs : List D} {Q : VK} (hT : ∀ i ∈ tg.slots, i ∈ vs) (R1 : RE K ct ua F1 ρ u1 σ H1) (W : Walks K ct ua F1 J xs) (hs : small xs.length = true)
    (q2 : Φ (bnd (dLcGo tg t e (wipeE ρ vs) xs) (fun ys => ret (.lst ([] ++ ys))) u1))
    (fin : ∀ F' u' H' A acc accV, LcI ua F1 H1 A F' H' u' (.lst accV) → Reps K ct ua F' accV acc → Φ (ret (.lst acc) u') → Q (.ref A) H') : ∀ A, H1 A = none → ∃ W : Nat → Nat → Hp → Prop, (∃ m, W 0 m (upd H1 A (.lst []))) ∧ ∀ i m H, W i m H →
      (J.stop i H ∧ Q (.ref A) H) ∨ (J.go i H ∧ ∃ Nx : Hp → Prop, (∀ H', Nx H' → ∃ m', m' < m ∧ W (i + 1) m' H') ∧ ∀ x H', J.yld i H x H' → tgG K tg x (wipe σ vs) H' fun σ2 H2 => wipe σ2 vs = wipe σ vs ∧ tG K ct rB E0' t σ2 H2 fun b H3 =>
        if b = true then tG K ct (rD K ct) E0' e σ2 H3 fun y H4 => ∃ acc, H4 A = some (.lst acc) ∧ acc.length < sizeLine ∧ Nx (upd H4 A (.lst (acc ++ [y]))) else Nx H3) := by
  intro Dl hD
  refine ⟨fun i m H' => m = xs.length - i ∧ ∃ F' u' acc accV, i ≤ xs.length ∧ acc.length ≤ i ∧ LcI ua F1 H1 Dl F' H' u' (.lst accV) ∧ Reps K ct ua F' accV acc ∧
    Φ (bnd (dLcGo tg t e (wipeE ρ vs) (xs.drop i)) (fun ys => ret (.lst (acc ++ ys))) u'), ⟨xs.length, rfl, F1, u1, [], [], Nat.zero_le _, Nat.le_refl _, LcI.init R1.toBs hD, .nil, q2⟩, ?_⟩
  rintro i m H' ⟨rfl, F', u', acc, accV, hi, ha, L, ra, q3⟩
  have hU := R1.urn
  by_cases hlt : i < xs.length
  · refine .inr ⟨W.go i F' H' hlt L.st.exF L.bs.ex, fun H'' => ∃ F' u' acc accV, i + 1 ≤ xs.length ∧ acc.length ≤ i + 1 ∧ LcI ua F1 H1 Dl F' H'' u' (.lst accV) ∧ Reps K ct ua F' accV acc ∧
      Φ (bnd (dLcGo tg t e (wipeE ρ vs) (xs.drop (i + 1))) (fun ys => ret (.lst (acc ++ ys))) u'), fun H'' h => ⟨xs.length - (i + 1), by omega, rfl, h⟩, fun x H2 y => ?_⟩
    rw [drop_cons hlt] at q3
    unfold dLcGo at q3
    cases hb : bindT tg xs[i] (wipeE ρ vs) with
    | none => rw [hb] at q3; exact (hno q3).elim
    | some ρ1 =>
      rw [hb, bnd_opt, bnd_assoc] at q3
      obtain ⟨F2, s2, hu2, r2⟩ := W.yld i xs[i] x F' u' H' H2 (List.getElem?_eq_getElem hlt) L.st.exF L.bs y
      have L2 := L.step hU s2 hu2
      have R2 := (R1.step L2.st hu2).wipe vs
      refine tgG_run hb R2 r2 fun σ2 hst R3 => ⟨(wipe_stored hst hT).trans (wipe_wipe vs σ), ?_⟩
      refine tG_nx hno R3 q3 fun F3 b' H3 b u3 s3 R4 rb q4 => ?_
      obtain rfl : b' = b := rb
      have L3 := L2.step hU s3 R4.urn
      have ra3 := (ra.mono s2.exF).mono s3.exF
      cases b' with
      | false =>
        rw [if_neg Bool.false_ne_true] at q4 ⊢
        exact ⟨F3, u3, acc, accV, hlt, by omega, L3, ra3, q4⟩
      | true =>
        rw [if_pos rfl, bnd_assoc] at q4
        rw [if_pos rfl]
        refine tG_nx hno R4 q4 fun F4 v H4 d u4 s4 R5 rd q5 => ?_
        have L4 := L3.step hU s4 R5.urn
        have ra4 := ra3.mono s4.exF
        refine ⟨accV, L4.hd, ?_, F4, u4, acc ++ [d], accV ++ [v], hlt, by simp; omega, L4.put hU, ra4.append (.cons rd .nil), ?_⟩
        · rw [ra4.length]
          exact sz_lt (Nat.lt_of_le_of_lt ha (Nat.lt_of_lt_of_le hlt (of_decide_eq_true hs)))
        · rw [bnd_assoc] at q5
          have e2 : (fun ys => ret (D.lst (acc ++ [d] ++ ys)) : List D → M D) = fun x => bnd (ret (d :: x)) fun ys => ret (D.lst (acc ++ ys)) := by
            funext ys; rw [bnd_ret, List.append_assoc]; rfl
          rw [e2]; exact q5
  · have e1 : i = xs.length := by omega
    subst e1
    refine .inl ⟨W.stop F' H' L.st.exF L.bs.ex, ?_⟩
    rw [List.drop_length] at q3
    have q3 : Φ (ret (.lst (acc ++ [])) u') := q3
    rw [List.append_nil] at q3
    exact fin _ _ _ _ _ _ L ra q3
theorem tLc_of {E : St → XK} {fi : DI} {tg : Tg} {t : DB} {e : DE} {vs : List Nat} (hT : ∀ i ∈ tg.slots, i ∈ vs) : ∀ σ H Q, tG K ct (rD K ct) E (dLc fi tg t e vs) σ H Q →
    tLc (tG K ct (rI K ct) E fi) (tgG K tg) (tG K ct rB E0' t) (tG K ct (rD K ct) E0' e) vs σ H Q := by
  rintro σ H Q ⟨ua, F, ρ, u, R, q⟩
  refine tG_bind R q fun F1 J H1 xs u1 s1 R1 W q1 => ?_
  have hs : small xs.length = true := by
    cases h : small xs.length with
    | true => rfl
    | false => simp only [h, chk] at q1; exact (show False from q1).elim
  simp only [hs, chk, if_pos] at q1
  exact lc_go (Φ := fun r => out K ct (rD K ct) ua F1 H1 (E σ) r Q) (fun h => h) hT R1 W hs q1 fun F' u' H' A acc accV L ra q3 => q3 _ _ _ (L.done R1.urn) L.urn (.lst upd_same (ra.mono (Ex.new L.nd)))

/-! ### {k: v for tg in xs if t} -/
def putD (kds : List (Key × D)) (k : Key) (v : D) : List (Key × D) :=
  if (kds.any fun kv => decide (kv.1 = k)) = true then kds.map fun kv => if kv.1 = k then (kv.1, v) else kv else kds ++ [(k, v)]
theorem any_keys {β γ : Type} (k : Key) : ∀ {kvs : List (Key × β)} {kds : List (Key × γ)}, kds.map (·.1) = kvs.map (·.1) → (kds.any fun kv => decide (kv.1 = k)) = kvs.any fun kv => decide (kv.1 = k)
  | [], [], _ => rfl
  | [], _ :: _, h => by cases h
  | _ :: _, [], h => by cases h
  | (a, b) :: kvs, (c, d) :: kds, h => by
    have h1 : c = a := (List.cons.inj h).1
    rw [List.any_cons, List.any_cons, h1, any_keys k (List.cons.inj h).2]
theorem put_keys {β : Type} (k : Key) (v : β) : ∀ kvs : List (Key × β), (kvs.map fun kv => if kv.1 = k then (kv.1, v) else kv).map (·.1) = kvs.map (·.1)
  | [] => rfl
  | (a, b) :: kvs => by
    rw [List.map_cons, List.map_cons, List.map_cons, put_keys k v kvs]
    by_cases h : a = k
    · rw [if_pos h]
    · rw [if_neg h]
theorem put_reps {k : Key} {v : V} {d : D} (r : Rep K ct ua F v d) : ∀ {kvs : List (Key × V)} {kds : List (Key × D)}, kds.map (·.1) = kvs.map (·.1) → Reps K ct ua F (kvs.map (·.2)) (kds.map (·.2)) →
    Reps K ct ua F ((kvs.map fun kv => if kv.1 = k then (kv.1, v) else kv).map (·.2)) ((kds.map fun kv => if kv.1 = k then (kv.1, d) else kv).map (·.2))
  | [], [], _, _ => .nil
  | [], _ :: _, h, _ => by cases h
  | _ :: _, [], h, _ => by cases h
  | (a, b) :: kvs, (c, d') :: kds, h, rs => by
    have h1 : c = a := (List.cons.inj h).1
    subst h1
    cases rs with
    | cons r1 r2 =>
      rw [List.map_cons, List.map_cons, List.map_cons, List.map_cons]
      by_cases h : c = k
      · rw [if_pos h, if_pos h]; exact .cons r (put_reps r (List.cons.inj ‹_›).2 r2)
      · rw [if_neg h, if_neg h]; exact .cons r1 (put_reps r (List.cons.inj ‹_›).2 r2)
/-- the pairs of a dict and the data's -/
structure KvsI (K : PySem.W.Frag) (ct : Nat → Addr) (ua : Addr) (F : Hp) (kvs : List (Key × V)) (kds : List (Key × D)) : Prop where
  nd : (kvs.map (·.1)).Nodup
  ks : kds.map (·.1) = kvs.map (·.1)
  rs : Reps K ct ua F (kvs.map (·.2)) (kds.map (·.2))
theorem KvsI.mono {kvs : List (Key × V)} {kds : List (Key × D)} (h : KvsI K ct ua F kvs kds) (e : Ex F F1) : KvsI K ct ua F1 kvs kds := ⟨h.nd, h.ks, h.rs.mono e⟩
theorem KvsI.len {kvs : List (Key × V)} {kds : List (Key × D)} (h : KvsI K ct ua F kvs kds) : kvs.length = kds.length := by
  have e := congrArg List.length h.ks
  simpa using e.symm
theorem KvsI.put {kvs : List (Key × V)} {kds : List (Key × D)} {k : Key} {v : V} {d : D} (h : KvsI K ct ua F kvs kds) (r : Rep K ct ua F v d) : KvsI K ct ua F (putK kvs k v) (putD kds k d) := by
  have ea := any_keys k h.ks
  unfold putK putD
  rw [ea]
  by_cases hk : (kvs.any fun kv => decide (kv.1 = k)) = true
  · rw [if_pos hk, if_pos hk]
    exact ⟨by rw [put_keys]; exact h.nd, by rw [put_keys, put_keys]; exact h.ks, put_reps r h.ks h.rs⟩
  · rw [if_neg hk, if_neg hk]
    refine ⟨?_, by rw [List.map_append, List.map_append, h.ks]; rfl, by rw [List.map_append, List.map_append]; exact h.rs.append (.cons r .nil)⟩
    rw [List.map_append]
    refine List.nodup_append.mpr ⟨h.nd, List.nodup_cons.mpr ⟨by simp, List.nodup_nil⟩, fun a ha b hb e => hk ?_⟩
    have hb : b = k := by simpa using hb
    subst hb
    subst e
    obtain ⟨p, hp, e⟩ := List.mem_map.mp ha
    exact List.any_eq_true.mpr ⟨p, hp, decide_eq_true e⟩
theorem KvsI.dct {kvs : List (Key × V)} {kds : List (Key × D)} {a : Addr} (h : KvsI K ct ua F kvs kds) (ha : F a = some (.dK kvs)) : Rep K ct ua F (.ref a) (.dct kds) := .dct ha h.nd h.ks h.rs
theorem putD_len (kds : List (Key × D)) (k : Key) (v : D) : (putD kds k v).length ≤ kds.length + 1 := by
  unfold putD
  split
  · rw [List.length_map]; exact Nat.le_succ _
  · rw [List.length_append]; exact Nat.le_refl _
def dDcGo (tg : Tg) (t : DB) (ek ev : DE) (ρ0 : En) : List D → List (Key × D) → M (List (Key × D))
  | [], acc => ret acc
  | x :: xs, acc => bnd (opt (bindT tg x ρ0)) fun ρ1 => bnd (nx (t ρ1)) fun b => if b = true then bnd (nx (ek ρ1)) fun k => bnd (nx (ev ρ1)) fun v => bnd (opt (keyD k)) fun k => dDcGo tg t ek ev ρ0 xs (putD acc k v) else dDcGo tg t ek ev ρ0 xs acc
def dDc (fi : DI) (tg : Tg) (t : DB) (ek ev : DE) (vs : List Nat) : DE := fun ρ => bnd (fi ρ) fun xs => bnd (opt (chk (small xs.length) ())) fun _ => bnd (dDcGo tg t ek ev (wipeE ρ vs) xs []) fun ys => ret (.dct ys)
theorem dc_go {Φ : Res D → Prop} (hno : ¬ Φ .no) {tg : Tg} {t : DB} {ek ev : DE} {vs : List Nat} {J : It} {xs : List D} {Q : VK} (hT : ∀ i ∈ tg.slots, i ∈ vs) (R1 : RE K ct ua F1 ρ u1 σ H1) (W : Walks K ct ua F1 J xs) (hs : small xs.length = true)
    (q2 : Φ (bnd (dDcGo tg t ek ev (wipeE ρ vs) xs []) (fun ys => ret (.dct ys)) u1))
    (fin : ∀ F' u' H' A acc accV, LcI ua F1 H1 A F' H' u' (.dK accV) → KvsI K ct ua F' accV acc → Φ (ret (.dct acc) u') → Q (.ref A) H') : ∀ A, H1 A = none → ∃ W : Nat → Nat → Hp → Prop, (∃ m, W 0 m (upd H1 A (.dK []))) ∧ ∀ i m H, W i m H →
      (J.stop i H ∧ Q (.ref A) H) ∨ (J.go i H ∧ ∃ Nx : Hp → Prop, (∀ H', Nx H' → ∃ m', m' < m ∧ W (i + 1) m' H') ∧ ∀ x H', J.yld i H x H' → tgG K tg x (wipe σ vs) H' fun σ2 H2 => wipe σ2 vs = wipe σ vs ∧ tG K ct rB E0' t σ2 H2 fun b H3 =>
        if b = true then tG K ct (rD K ct) E0' ek σ2 H3 fun kv H4 => tG K ct (rD K ct) E0' ev σ2 H4 fun y H5 => ∃ acc k, kv = kV k ∧ H5 A = some (.dK acc) ∧ acc.length < sizeLine ∧ Nx (upd H5 A (.dK (putK acc k y))) else Nx H3) := by
  intro Dl hD
  refine ⟨fun i m H' => m = xs.length - i ∧ ∃ F' u' acc accV, i ≤ xs.length ∧ acc.length ≤ i ∧ LcI ua F1 H1 Dl F' H' u' (.dK accV) ∧ KvsI K ct ua F' accV acc ∧
    Φ (bnd (dDcGo tg t ek ev (wipeE ρ vs) (xs.drop i) acc) (fun ys => ret (.dct ys)) u'), ⟨xs.length, rfl, F1, u1, [], [], Nat.zero_le _, Nat.le_refl _, LcI.init R1.toBs hD, ⟨List.nodup_nil, rfl, .nil⟩, q2⟩, ?_⟩
  rintro i m H' ⟨rfl, F', u', acc, accV, hi, ha, L, ra, q3⟩
  have hU := R1.urn
  by_cases hlt : i < xs.length
  · refine .inr ⟨W.go i F' H' hlt L.st.exF L.bs.ex, fun H'' => ∃ F' u' acc accV, i + 1 ≤ xs.length ∧ acc.length ≤ i + 1 ∧ LcI ua F1 H1 Dl F' H'' u' (.dK accV) ∧ KvsI K ct ua F' accV acc ∧
      Φ (bnd (dDcGo tg t ek ev (wipeE ρ vs) (xs.drop (i + 1)) acc) (fun ys => ret (.dct ys)) u'), fun H'' h => ⟨xs.length - (i + 1), by omega, rfl, h⟩, fun x H2 y => ?_⟩
    rw [drop_cons hlt] at q3
    unfold dDcGo at q3
    cases hb : bindT tg xs[i] (wipeE ρ vs) with
    | none => rw [hb] at q3; exact (hno q3).elim
    | some ρ1 =>
      rw [hb, bnd_opt, bnd_assoc] at q3
      obtain ⟨F2, s2, hu2, r2⟩ := W.yld i xs[i] x F' u' H' H2 (List.getElem?_eq_getElem hlt) L.st.exF L.bs y
      have L2 := L.step hU s2 hu2
      have R2 := (R1.step L2.st hu2).wipe vs
      refine tgG_run hb R2 r2 fun σ2 hst R3 => ⟨(wipe_stored hst hT).trans (wipe_wipe vs σ), ?_⟩
      refine tG_nx hno R3 q3 fun F3 b' H3 b u3 s3 R4 rb q4 => ?_
      obtain rfl : b' = b := rb
      have L3 := L2.step hU s3 R4.urn
      have ra3 := (ra.mono s2.exF).mono s3.exF
      cases b' with
      | false =>
        rw [if_neg Bool.false_ne_true] at q4 ⊢
        exact ⟨F3, u3, acc, accV, hlt, by omega, L3, ra3, q4⟩
      | true =>
        rw [if_pos rfl, bnd_assoc] at q4
        rw [if_pos rfl]
        refine tG_nx hno R4 q4 fun F4 kv H4 kd u4 s4 R5 rk q5 => ?_
        have L4 := L3.step hU s4 R5.urn
        rw [bnd_assoc] at q5
        refine tG_nx hno R5 q5 fun F5 v H5 d u5 s5 R6 rd q6 => ?_
        have L5 := L4.step hU s5 R6.urn
        have ra5 := (ra3.mono s4.exF).mono s5.exF
        cases hk : keyD kd with
        | none => rw [hk] at q6; exact (hno q6).elim
        | some k =>
          rw [hk, bnd_opt] at q6
          refine ⟨accV, k, keyD_rep rk hk, L5.hd, ?_, F5, u5, putD acc k d, putK accV k v, hlt, Nat.le_trans (putD_len acc k d) (by omega), L5.put hU, ra5.put rd, q6⟩
          rw [ra5.len]
          exact sz_lt (Nat.lt_of_le_of_lt ha (Nat.lt_of_lt_of_le hlt (of_decide_eq_true hs)))
  · have e1 : i = xs.length := by omega
    subst e1
    refine .inl ⟨W.stop F' H' L.st.exF L.bs.ex, ?_⟩
    rw [List.drop_length] at q3
    have q3 : Φ (ret (.dct acc) u') := q3
    exact fin _ _ _ _ _ _ L ra q3
theorem tDc_of {E : St → XK} {fi : DI} {tg : Tg} {t : DB} {ek ev : DE} {vs : List Nat} (hT : ∀ i ∈ tg.slots, i ∈ vs) : ∀ σ H Q, tG K ct (rD K ct) E (dDc fi tg t ek ev vs) σ H Q →
    tDc (tG K ct (rI K ct) E fi) (tgG K tg) (tG K ct rB E0' t) (tG K ct (rD K ct) E0' ek) (tG K ct (rD K ct) E0' ev) vs σ H Q := by
  rintro σ H Q ⟨ua, F, ρ, u, R, q⟩
  refine tG_bind R q fun F1 J H1 xs u1 s1 R1 W q1 => ?_
  have hs : small xs.length = true := by
    cases h : small xs.length with
    | true => rfl
    | false => simp only [h, chk] at q1; exact (show False from q1).elim
  simp only [hs, chk, if_pos] at q1
  exact dc_go (Φ := fun r => out K ct (rD K ct) ua F1 H1 (E σ) r Q) (fun h => h) hT R1 W hs q1 fun F' u' H' A acc accV L ra q3 => q3 _ _ _ (L.done R1.urn) L.urn ((ra.mono (Ex.new L.nd)).dct upd_same)
end
end Dl
set_option Elab.async false
set_option linter.all false
set_option maxRecDepth 100000
set_option maxHeartbeats 4000000
/-! Dl6: statements over data. -/
namespace Dl
open PySem L2 Evl

inductive SR where
  | nx (ρ : En) (u : U)
  | rt (d : D) (u : U)
  | bk (ρ : En) (u : U)
  | ct (ρ : En) (u : U)
  | ex (c : Nat) (fs : List (Str × D)) (ρ : En) (u : U)
  | no
abbrev DS := En → U → SR
/-- an expression's result, then k; what it raises leaves with the slots ρ -/
def thenS {α : Type} (r : Res α) (ρ : En) (k : α → U → SR) : SR := match r with
  | .ok x u => k x u
  | .exc c fs u => .ex c fs ρ u
  | .no => .no
def SR.seq (r : SR) (k : DS) : SR := match r with
  | .nx ρ u => k ρ u
  | r => r

/-- the addresses of what is one's own -/
def Own (ρ : En) (σ : St) (a : Addr) : Prop := ∃ (i : Nat) (d : D), ρ[i]? = some (.own d) ∧ σ[i]? = some (some (.ref a))
structure RS (K : PySem.W.Frag) (ct : Nat → Addr) (P : Addr → Prop) (ua : Addr) (F : Hp) (ρ : En) (u : U) (σ : St) (H : Hp) : Prop extends RE K ct ua F ρ u σ H where
  sep : ∀ (i j : Nat) (d e : D) (a : Addr), ρ[i]? = some (.own d) → ρ[j]? = some (.own e) → σ[i]? = some (some (.ref a)) → σ[j]? = some (some (.ref a)) → i = j
  /-- an own object stands where P says -/
  obj : ∀ (i c : Nat) (gs : List (Str × D)) (a : Addr), ρ[i]? = some (.own (.obj c gs)) → σ[i]? = some (some (.ref a)) → P a
structure StS (ua : Addr) (O : Addr → Prop) (F H F' H' : Hp) : Prop where
  exF : Ex F F'
  exH : Ex F' H'
  nu : F' ua = none
  kp : ∀ b o, b ≠ ua → ¬ O b → H b = some o → H' b = some o
  fr : ∀ b o, F' b = some o → F b = some o ∨ H b = none ∨ O b
  th : ∀ b o, b ≠ ua → H b = some o → ∃ o', H' b = some o'
section
variable {K : PySem.W.Frag} {ct : Nat → Addr} {ua : Addr} {P : Addr → Prop} {F F1 F2 H H1 H2 : Hp} {ρ ρ1 : En} {u u1 : U} {σ σ1 : St} {O O1 : Addr → Prop}
theorem Stp.s (s : Stp ua F H F1 H1) : StS ua O F H F1 H1 := ⟨s.exF, s.exH, s.nu, fun b o n _ h => s.kp b o n h, fun b o h => (s.fr b o h).elim .inl fun z => .inr (.inl z), fun b o n h => ⟨o, s.kp b o n h⟩⟩
theorem StS.refl (b : Bs ua F u H) : StS ua O F H F H := (Stp.refl b).s
theorem StS.trans (s : StS ua O F H F1 H1) (t : StS ua O1 F1 H1 F2 H2) (h : ∀ b, O1 b → O b ∨ H b = none) : StS ua O F H F2 H2 where
  exF := s.exF.trans t.exF
  exH := t.exH
  nu := t.nu
  kp := fun b o n no hb => t.kp b o n (fun z => by
    rcases h b z with z | z
    · exact no z
    · rw [hb] at z; cases z) (s.kp b o n no hb)
  th := fun b o n hb => by
    obtain ⟨o', q⟩ := s.th b o n hb
    exact t.th b o' n q
  fr := fun b o hb => by
    rcases t.fr b o hb with z | z | z
    · exact s.fr b o z
    · by_cases e : b = ua
      · rw [e, t.nu] at hb; cases hb
      · by_cases q : O b
        · exact .inr (.inr q)
        · cases w : H b with
          | none => exact .inr (.inl rfl)
          | some w' => rw [s.kp b w' e q w] at z; cases z
    · rcases h b z with z | z
      · exact .inr (.inr z)
      · exact .inr (.inl z)
theorem StS.bs (s : StS ua O F H F1 H1) (h : Urn ua u1 H1) : Bs ua F1 u1 H1 := ⟨s.exH, h, s.nu⟩
/-- what is made on the way is not one's own at the start, or it was nothing -/
theorem StS.back (s : StS ua O F H F1 H1) (hu : Urn ua u1 H1) {p : Addr} (h : H1 p = none) : H p = none := by
  by_cases e : p = ua
  · rw [e, hu] at h; cases h
  · cases w : H p with
    | none => rfl
    | some w' =>
      obtain ⟨o', q⟩ := s.th p w' e w
      rw [q] at h; cases h
theorem RS.step (R : RS K ct P ua F ρ u σ H) (s : Stp ua F H F1 H1) (h : Urn ua u1 H1) : RS K ct P ua F1 ρ u1 σ H1 := ⟨R.toRE.step s h, R.sep, R.obj⟩
theorem OwnAt.there {d : D} {a : Addr} (h : OwnAt K ct ua F H a d) : ∃ o, H a = some o := by
  cases d <;> first
    | exact (show False from h).elim
    | (obtain ⟨_, z2, _⟩ := h; exact ⟨_, z2⟩)
    | (obtain ⟨_, _, z2, _⟩ := h; exact ⟨_, z2⟩)
theorem RE.own_some (R : RE K ct ua F ρ u σ H) {a : Addr} (h : Own ρ σ a) : a ≠ ua ∧ F a = none ∧ ∃ o, H a = some o := by
  obtain ⟨i, d, h1, h2⟩ := h
  obtain ⟨a', e1, e2, e3, e4⟩ := R.owns i d h1
  rw [h2] at e1; cases e1
  exact ⟨e2, e3, OwnAt.there e4⟩
end

/-- what a block's end wishes -/
def outS (K : PySem.W.Frag) (ct : Nat → Addr) (P : Addr → Prop) (ua : Addr) (F H : Hp) (O : Addr → Prop) (E : St → XK) (r : SR) (D : Ends) : Prop := match r with
  | .nx ρ u => ∀ F' H' σ', StS ua O F H F' H' → RS K ct P ua F' ρ u σ' H' → (∀ b, Own ρ σ' b → O b ∨ H b = none) → D.nx σ' H'
  | .bk ρ u => ∀ F' H' σ', StS ua O F H F' H' → RS K ct P ua F' ρ u σ' H' → (∀ b, Own ρ σ' b → O b ∨ H b = none) → D.bk σ' H'
  | .ct ρ u => ∀ F' H' σ', StS ua O F H F' H' → RS K ct P ua F' ρ u σ' H' → (∀ b, Own ρ σ' b → O b ∨ H b = none) → D.ct σ' H'
  | .rt d u => ∀ F' H' v, StS ua O F H F' H' → Urn ua u H' → Rep K ct ua F' v d → D.rt v H'
  | .ex c gs ρ u => ∀ F' H' σ' dd fs, StS ua O F H F' H' → RS K ct P ua F' ρ u σ' H' → (∀ b, Own ρ σ' b → O b ∨ H b = none) → H' dd = some (.xd fs) → H dd = none → F' dd = none → gs.map (·.1) = fs.map (·.1) → Reps K ct ua F' (fs.map (·.2)) (gs.map (·.2)) → E σ' (.ref (ct c)) (some dd) H'
  | .no => False
section
variable {K : PySem.W.Frag} {ct : Nat → Addr} {ua : Addr} {P : Addr → Prop} {F F1 F2 H H1 H2 : Hp} {ρ ρ1 : En} {u u1 : U} {σ σ1 : St} {O O1 : Addr → Prop} {E : St → XK} {D D' : Ends}
theorem outS.shift {r : SR} (b : Bs ua F u H) (h : outS K ct P ua F H O E r D) (s : StS ua O F H F1 H1) (hu : Urn ua u1 H1) (ho : ∀ b, O1 b → O b ∨ H b = none) : outS K ct P ua F1 H1 O1 E r D := by
  have own : ∀ {P : Addr → Prop}, (∀ b, P b → O1 b ∨ H1 b = none) → ∀ b, P b → O b ∨ H b = none := fun h c hc => (h c hc).elim (ho c) fun z => .inr (s.back hu z)
  cases r with
  | nx ρ u => exact fun F' H' σ' t R o => h F' H' σ' (s.trans t ho) R (own o)
  | bk ρ u => exact fun F' H' σ' t R o => h F' H' σ' (s.trans t ho) R (own o)
  | ct ρ u => exact fun F' H' σ' t R o => h F' H' σ' (s.trans t ho) R (own o)
  | rt d u => exact fun F' H' v t R o => h F' H' v (s.trans t ho) R o
  | ex c gs ρ u => exact fun F' H' σ' dd fs t R o hd h0 hf k r => h F' H' σ' dd fs (s.trans t ho) R (own o) hd (s.back hu h0) hf k r
  | no => exact h
theorem outS.ends {r : SR} (h : outS K ct P ua F H O E r D) (h1 : ∀ σ H, D.nx σ H → D'.nx σ H) (h2 : ∀ v H, D.rt v H → D'.rt v H) (h3 : ∀ σ H, D.bk σ H → D'.bk σ H) (h4 : ∀ σ H, D.ct σ H → D'.ct σ H) : outS K ct P ua F H O E r D' := by
  cases r with
  | nx ρ u => exact fun F' H' σ' t R o => h1 _ _ (h F' H' σ' t R o)
  | bk ρ u => exact fun F' H' σ' t R o => h3 _ _ (h F' H' σ' t R o)
  | ct ρ u => exact fun F' H' σ' t R o => h4 _ _ (h F' H' σ' t R o)
  | rt d u => exact fun F' H' v t R o => h2 _ _ (h F' H' v t R o)
  | ex c gs ρ u => exact h
  | no => exact h
/-- a block: f of the slots' data -/
def tS (K : PySem.W.Frag) (ct : Nat → Addr) (E : St → XK) (f : DS) : TS := fun D σ H => ∃ ua F ρ u O P, RS K ct P ua F ρ u σ H ∧ (∀ b, Own ρ σ b → O b) ∧ outS K ct P ua F H O E (f ρ u) D
theorem tS_here {f : DS} (R : RS K ct P ua F ρ u σ H) (o : ∀ b, Own ρ σ b → O b) (q : outS K ct P ua F H O E (f ρ u) D) : tS K ct E f D σ H := ⟨ua, F, ρ, u, O, P, R, o, q⟩
/-- an expression in a statement -/
theorem tS_bind {α β : Type} {rel : Addr → Hp → β → α → Prop} {f : En → M α} {k : α → U → SR} {Q1 : β → Hp → Prop} (R : RS K ct P ua F ρ u σ H) (o : ∀ b, Own ρ σ b → O b) (h : outS K ct P ua F H O E (thenS (f ρ u) ρ k) D)
    (c : ∀ F1 v H1 x u1, Stp ua F H F1 H1 → RS K ct P ua F1 ρ u1 σ H1 → rel ua F1 v x → outS K ct P ua F1 H1 O E (k x u1) D → Q1 v H1) : tG K ct rel E f σ H Q1 := by
  refine ⟨ua, F, ρ, u, R.toRE, ?_⟩
  unfold thenS at h
  cases e : f ρ u with
  | ok x u1 =>
    rw [e] at h
    exact fun F1 v H1 s hu r => c F1 v H1 x u1 s (R.step s hu) r (h.shift R.toBs s.s hu fun _ z => .inl z)
  | exc c gs u1 =>
    rw [e] at h
    exact fun F' H' dd fs s hu hd h0 hf k r => h F' H' σ dd fs s.s (R.step s hu) (fun b z => .inl (o b z)) hd h0 hf k r
  | no =>
    rw [e] at h
    exact h
end
def PSD (X : Cx) (ct : Nat → Addr) (E : St → XK) (st : Stmt) (f : DS) : Prop := PS X st (tS X.K ct E f)
def PSDs (X : Cx) (ct : Nat → Addr) (E : St → XK) (st : List Stmt) (f : DS) : Prop := PSs X st (tS X.K ct E f)
theorem PS.imp {X : Cx} {st : Stmt} {t t' : TS} (h : PS X st t) (k : ∀ D σ H, t' D σ H → t D σ H) : PS X st t' := ⟨fun pins s σ H D I q => h.run pins s σ H D I (k D σ H q)⟩
theorem PSs.imp {X : Cx} {st : List Stmt} {t t' : TS} (h : PSs X st t) (k : ∀ D σ H, t' D σ H → t D σ H) : PSs X st t' := ⟨fun pins s σ H D I q => h.run pins s σ H D I (k D σ H q)⟩

/-! ### what is one's own, frozen -/
def frz1 : Slot → Slot
  | .own d => .val d
  | s => s
def frz (ρ : En) : En := ρ.map frz1
theorem frz_get (ρ : En) (i : Nat) : (frz ρ)[i]? = (ρ[i]?).map frz1 := by unfold frz; rw [List.getElem?_map]
theorem frz_noown {ρ : En} {i : Nat} {d : D} : (frz ρ)[i]? ≠ some (.own d) := by
  rw [frz_get]
  intro h
  cases e : ρ[i]? with
  | none => rw [e] at h; cases h
  | some s => rw [e] at h; cases s <;> cases h
section
variable {K : PySem.W.Frag} {ct : Nat → Addr} {ua : Addr} {P : Addr → Prop} {F F1 F2 H H1 H2 : Hp} {ρ ρ1 : En} {u u1 : U} {σ σ1 : St} {O O1 : Addr → Prop} {E : St → XK}
open Classical in
/-- F with what is one's own -/
noncomputable def plus (F H : Hp) (P : Addr → Prop) : Hp := fun b => if P b then H b else F b
theorem plus_yes {P : Addr → Prop} {b : Addr} (h : P b) : plus F H P b = H b := by unfold plus; rw [if_pos h]
theorem plus_no {P : Addr → Prop} {b : Addr} (h : ¬ P b) : plus F H P b = F b := by unfold plus; rw [if_neg h]
theorem RE.plus_ex (R : RE K ct ua F ρ u σ H) : Ex F (plus F H (Own ρ σ)) := fun a o h => by
  by_cases e : Own ρ σ a
  · rw [(R.own_some e).2.1] at h; cases h
  · rw [plus_no e]; exact h
theorem RE.plus_h (R : RE K ct ua F ρ u σ H) : Ex (plus F H (Own ρ σ)) H := fun a o h => by
  by_cases e : Own ρ σ a
  · rw [plus_yes e] at h; exact h
  · rw [plus_no e] at h; exact R.ex a o h
theorem RE.plus_u (R : RE K ct ua F ρ u σ H) : plus F H (Own ρ σ) ua = none := by
  by_cases e : Own ρ σ ua
  · exact absurd rfl (R.own_some e).1
  · rw [plus_no e]; exact R.fu
theorem OwnAt.rep {d : D} {a : Addr} (h : OwnAt K ct ua F H a d) (e : Ex F F1) (k : ∀ o, H a = some o → F1 a = some o) : Rep K ct ua F1 (.ref a) d := by
  cases d <;> first | exact (show False from h).elim | skip
  · obtain ⟨vs, h1, h2⟩ := h; exact .lst (k _ h1) (h2.mono e)
  · obtain ⟨vs, h1, h2, h3, h4⟩ := h; exact .dct (k _ h1) h2 h3 (h4.mono e)
  · obtain ⟨dx, fs, h1, h3, h4⟩ := h; exact .obj (k _ h1) h3 (h4.mono e)
theorem RE.frz (R : RE K ct ua F ρ u σ H) : RE K ct ua (plus F H (Own ρ σ)) (frz ρ) u σ H where
  ex := R.plus_h
  urn := R.urn
  fu := R.plus_u
  len := by unfold Dl.frz; rw [List.length_map]; exact R.len
  vals := fun i d h => by
    rw [frz_get] at h
    cases e : ρ[i]? with
    | none => rw [e] at h; cases h
    | some s =>
      rw [e] at h
      cases s with
      | no => cases h
      | val d' =>
        cases h
        obtain ⟨v, h1, h2⟩ := R.vals i d e
        exact ⟨v, h1, h2.mono R.plus_ex⟩
      | own d' =>
        cases h
        obtain ⟨a, h1, h2, h3, h4⟩ := R.owns i d e
        exact ⟨_, h1, OwnAt.rep h4 R.plus_ex fun o q => by rw [plus_yes ⟨i, d, e, h1⟩]; exact q⟩
  owns := fun i d h => absurd h frz_noown
theorem frz_own {b : Addr} : ¬ Own (Dl.frz ρ) σ b := fun ⟨_, _, h, _⟩ => frz_noown h
theorem RS.frz (R : RS K ct P ua F ρ u σ H) : RS K ct P ua (plus F H (Own ρ σ)) (frz ρ) u σ H := ⟨R.toRE.frz, fun _ _ _ _ _ h => absurd h frz_noown, fun _ _ _ _ h => absurd h frz_noown⟩
theorem RE.frz_st (R : RE K ct ua F ρ u σ H) (o : ∀ b, Own ρ σ b → O b) : StS ua O F H (plus F H (Own ρ σ)) H where
  exF := R.plus_ex
  exH := R.plus_h
  nu := R.plus_u
  kp := fun _ _ _ _ h => h
  th := fun _ o _ h => ⟨o, h⟩
  fr := fun b o' h => by
    by_cases e : Own ρ σ b
    · exact .inr (.inr (o b e))
    · rw [plus_no e] at h; exact .inl h
/-- back from what was frozen for a while -/
theorem RE.thaw (R : RE K ct ua F ρ u σ H) (s : Stp ua (plus F H (Own ρ σ)) H F1 H1) : ∃ F2, Stp ua F H F2 H1 ∧ Ex F2 F1 ∧ ∀ b o, F1 b = some o → F2 b = some o ∨ Own ρ σ b := by
  classical
  refine ⟨fun b => if Own ρ σ b then none else F1 b, ⟨fun a o h => ?_, fun a o h => ?_, ?_, s.kp, fun a o h => ?_⟩, fun a o h => ?_, fun a o h => ?_⟩
  · show (if Own ρ σ a then none else F1 a) = some o
    by_cases e : Own ρ σ a
    · rw [(R.own_some e).2.1] at h; cases h
    · rw [if_neg e]; exact s.exF a o (by rw [plus_no e]; exact h)
  · replace h : (if Own ρ σ a then none else F1 a) = some o := h
    by_cases e : Own ρ σ a
    · rw [if_pos e] at h; cases h
    · rw [if_neg e] at h; exact s.exH a o h
  · show (if Own ρ σ ua then none else F1 ua) = none
    split
    · rfl
    · exact s.nu
  · replace h : (if Own ρ σ a then none else F1 a) = some o := h
    by_cases e : Own ρ σ a
    · rw [if_pos e] at h; cases h
    · rw [if_neg e] at h
      rcases s.fr a o h with z | z
      · rw [plus_no e] at z; exact .inl z
      · exact .inr z
  · replace h : (if Own ρ σ a then none else F1 a) = some o := h
    by_cases e : Own ρ σ a
    · rw [if_pos e] at h; cases h
    · rw [if_neg e] at h; exact h
  · by_cases e : Own ρ σ a
    · exact .inr e
    · exact .inl (by show (if Own ρ σ a then none else F1 a) = some o; rw [if_neg e]; exact h)
end
/-- values that lean on no object -/
def scal : D → Bool
  | .non => true
  | .bl _ => true
  | .int _ => true
  | .str _ => true
  | .urn => true
  | _ => false
theorem Rep.scal {K : PySem.W.Frag} {ct : Nat → Addr} {ua : Addr} {F F' : Hp} {v : V} {d : D} (r : Rep K ct ua F v d) (h : scal d = true) : Rep K ct ua F' v d := by
  cases r <;> first | exact .non | exact .bl _ | exact .int _ | exact .str _ | exact .urn | cases h
theorem Reps.scal {K : PySem.W.Frag} {ct : Nat → Addr} {ua : Addr} {F F' : Hp} : ∀ {vs : List V} {ds : List D}, Reps K ct ua F vs ds → ds.all Dl.scal = true → Reps K ct ua F' vs ds
  | _, _, .nil, _ => .nil
  | _, _, .cons r rs, h => by
    rw [List.all_cons, Bool.and_eq_true] at h
    exact .cons (r.scal h.1) (Reps.scal rs h.2)
/-- of what is one's own, for a while frozen: a bool -/
def lendB (f : DB) : DB := fun ρ u => match f (frz ρ) u with
  | .exc c gs u' => if (gs.map (·.2)).all scal = true then .exc c gs u' else .no
  | r => r
/-- .. a value that leans on no object -/
def lend (f : DE) : DE := fun ρ u => match f (frz ρ) u with
  | .exc c gs u' => if (gs.map (·.2)).all scal = true then .exc c gs u' else .no
  | .ok d u' => if scal d = true then .ok d u' else .no
  | .no => .no
section
variable {X : Cx} {ct : Nat → Addr} {E : St → XK}
theorem pdb_lend {e : Expr} {f : DB} (h : PDB X ct E e f) : PDB X ct E e (lendB f) := by
  refine PT.imp h fun σ H Q ⟨ua, F, ρ, u, R, q⟩ => ⟨ua, _, _, u, R.frz, ?_⟩
  unfold lendB at q
  cases e : f (frz ρ) u with
  | ok b u' =>
    rw [e] at q
    intro F' v H' s hu r
    obtain ⟨F2, s2, _, _⟩ := R.thaw s
    exact q F2 v H' s2 hu r
  | exc c gs u' =>
    rw [e] at q
    dsimp only at q
    split at q
    · rename_i hs
      intro F' H' dd fs s hu hd h0 hf k r
      obtain ⟨F2, s2, z, _⟩ := R.thaw s
      refine q F2 H' dd fs s2 hu hd h0 ?_ k (r.scal hs)
      cases w : F2 dd with
      | none => rfl
      | some w' => rw [z dd w' w] at hf; cases hf
    · exact (show False from q).elim
  | no => rw [e] at q; exact (show False from q).elim
theorem pd_lend {e : Expr} {f : DE} (h : PD X ct E e f) : PD X ct E e (lend f) := by
  refine PE.imp h fun σ H Q ⟨ua, F, ρ, u, R, q⟩ => ⟨ua, _, _, u, R.frz, ?_⟩
  unfold lend at q
  cases e : f (frz ρ) u with
  | ok b u' =>
    rw [e] at q
    dsimp only at q
    split at q
    · rename_i hs
      intro F' v H' s hu r
      obtain ⟨F2, s2, _, _⟩ := R.thaw s
      exact q F2 v H' s2 hu (r.scal hs)
    · exact (show False from q).elim
  | exc c gs u' =>
    rw [e] at q
    dsimp only at q
    split at q
    · rename_i hs
      intro F' H' dd fs s hu hd h0 hf k r
      obtain ⟨F2, s2, z, _⟩ := R.thaw s
      refine q F2 H' dd fs s2 hu hd h0 ?_ k (r.scal hs)
      cases w : F2 dd with
      | none => rfl
      | some w' => rw [z dd w' w] at hf; cases hf
    · exact (show False from q).elim
  | no => rw [e] at q; exact (show False from q).elim

/-! ### blocks -/
def sNx : DS := fun ρ u => .nx ρ u
def sBk : DS := fun ρ u => .bk ρ u
def sCt : DS := fun ρ u => .ct ρ u
def sSeq (f g : DS) : DS := fun ρ u => (f ρ u).seq g
theorem outS_seq {K : PySem.W.Frag} {P : Addr → Prop} {ua : Addr} {F H : Hp} {u : U} {O : Addr → Prop} {D : Ends} {r : SR} {g : DS} (b : Bs ua F u H) (h : outS K ct P ua F H O E (r.seq g) D) : outS K ct P ua F H O E r { D with nx := tS K ct E g D } := by
  cases r with
  | nx ρ u1 => exact fun F' H' σ' s R o => ⟨ua, F', ρ, u1, fun b => O b ∨ H b = none, P, R, o, h.shift b s R.urn fun _ z => z⟩
  | bk ρ u => exact h
  | ct ρ u => exact h
  | rt d u => exact h
  | ex c gs ρ u => exact h
  | no => exact h
theorem own_refl {K : PySem.W.Frag} {P : Addr → Prop} {ua : Addr} {F H : Hp} {ρ : En} {σ : St} {u : U} {O : Addr → Prop} {D : Ends} (R : RS K ct P ua F ρ u σ H) (o : ∀ b, Own ρ σ b → O b) (q : outS K ct P ua F H O E (.nx ρ u) D) : D.nx σ H :=
  q F H σ (StS.refl R.toBs) R fun b z => .inl (o b z)
theorem psds_nil : PSDs X ct E [] sNx := PSs.imp pss_nil fun D σ H ⟨ua, F, ρ, u, O, P, R, o, q⟩ => own_refl R o q
theorem psds_cons {st : Stmt} {rest : List Stmt} {f g : DS} (h1 : PSD X ct E st f) (h2 : PSDs X ct E rest g) : PSDs X ct E (st :: rest) (sSeq f g) :=
  PSs.imp (pss_cons h1 h2) fun D σ H ⟨ua, F, ρ, u, O, P, R, o, q⟩ => ⟨ua, F, ρ, u, O, P, R, o, outS_seq R.toBs q⟩
theorem psds_one {st : Stmt} {f : DS} (h1 : PSD X ct E st f) : PSDs X ct E [st] f := pss_one h1
theorem psd_pass {pos : Pos} : PSD X ct E (.Pass pos) sNx := PS.imp ps_pass fun D σ H ⟨ua, F, ρ, u, O, P, R, o, q⟩ => own_refl R o q
theorem psd_break {pos : Pos} : PSD X ct E (.Break pos) sBk := PS.imp ps_break fun D σ H ⟨ua, F, ρ, u, O, P, R, o, q⟩ => q F H σ (StS.refl R.toBs) R fun b z => .inl (o b z)
theorem psd_continue {pos : Pos} : PSD X ct E (.Continue pos) sCt := PS.imp ps_continue fun D σ H ⟨ua, F, ρ, u, O, P, R, o, q⟩ => q F H σ (StS.refl R.toBs) R fun b z => .inl (o b z)
/-- ahead of a block all that is one's own is given away -/
def sFrz (f : DS) : DS := fun ρ u => f (frz ρ) u
theorem tS_frz {K : PySem.W.Frag} {f : DS} {D : Ends} {σ : St} {H : Hp} (h : tS K ct E (sFrz f) D σ H) : tS K ct E f D σ H := by
  obtain ⟨ua, F, ρ, u, O, P, R, o, q⟩ := h
  exact ⟨ua, _, _, u, O, P, R.frz, fun b z => absurd z frz_own, outS.shift (r := f (frz ρ) u) R.toBs q (R.toRE.frz_st o) R.urn fun b z => .inl z⟩
theorem psd_frz {st : Stmt} {f : DS} (h : PSD X ct E st f) : PSD X ct E st (sFrz f) := PS.imp h fun _ _ _ => tS_frz
theorem psds_frz {st : List Stmt} {f : DS} (h : PSDs X ct E st f) : PSDs X ct E st (sFrz f) := PSs.imp h fun _ _ _ => tS_frz
/-- e, dropped -/
def sDrop (f : DE) : DS := fun ρ u => thenS (f ρ u) ρ fun _ u => .nx ρ u
theorem psd_drop {e : Expr} {f : DE} {pos : Pos} (h : PD X ct E e f) (hs : swapsWith e none pos.line X.env = pure false := by rfl) : PSD X ct E (.Expr e pos) (sDrop f) :=
  PS.imp (ps_expr h hs) fun D σ H ⟨ua, F, ρ, u, O, P, R, o, q⟩ => tS_bind R o q fun F1 v H1 x u1 s R1 r q1 => own_refl R1 o q1
theorem psd_doc {x j pos pos'} : PSD X ct E (.Expr (.Constant (.str x) j pos) pos') sNx := PS.imp ps_doc fun D σ H ⟨ua, F, ρ, u, O, P, R, o, q⟩ => own_refl R o q
/-- return e -/
def sRet (f : DE) : DS := sFrz fun ρ u => thenS (f ρ u) ρ fun d u => .rt d u
theorem psd_ret {e : Expr} {f : DE} {pos : Pos} (h : PD X ct E e f) : PSD X ct E (.Return (some e) pos) (sRet f) :=
  PS.imp (ps_ret h) fun D σ H h => by
    obtain ⟨ua, F, ρ, u, O, P, R, o, q⟩ := tS_frz h
    exact tS_bind R o q fun F1 v H1 x u1 s R1 r q1 => q1 F1 H1 v (StS.refl R1.toBs) R1.urn r
def sRetN : DS := fun _ u => .rt .non u
theorem psd_retN {pos : Pos} : PSD X ct E (.Return none pos) sRetN := PS.imp ps_retN fun D σ H ⟨ua, F, ρ, u, O, P, R, o, q⟩ => q F H .non (StS.refl R.toBs) R.urn .non
/-- if -/
def sIf (c : DB) (f g : DS) : DS := fun ρ u => thenS (lendB c ρ u) ρ fun b u => if b = true then f ρ u else g ρ u
theorem psd_if {c : Expr} {a b : List Stmt} {t : DB} {f g : DS} {pos : Pos} (hc : PDB X ct E c t) (ha : PSDs X ct E a f) (hb : PSDs X ct E b g) : PSD X ct E (.If c a b pos) (sIf t f g) := by
  refine PS.imp (ps_if (pdb_lend hc) ha hb) fun D σ H ⟨ua, F, ρ, u, O, P, R, o, q⟩ => tS_bind R o q fun F1 v H1 x u1 s R1 r q1 => ?_
  obtain rfl : v = x := r
  cases v with
  | true => exact tS_here R1 o q1
  | false => exact tS_here R1 o q1
/-- name = e -/
theorem own_set {ρ : En} {σ : St} {i : Nat} {s : Slot} {v : V} {b : Addr} (hs : ∀ d, s ≠ .own d) (h : Own (ρ.set i s) (σ.set i (some v)) b) : Own ρ σ b := by
  obtain ⟨j, d, h1, h2⟩ := h
  by_cases e : i = j
  · subst e
    have hl : i < ρ.length := by
      have := (List.getElem?_eq_some_iff.mp h1).1
      simpa using this
    rw [List.getElem?_set_self hl] at h1
    exact absurd (Option.some.inj h1) (hs d)
  · rw [List.getElem?_set_ne e] at h1 h2
    exact ⟨j, d, h1, h2⟩
theorem sep_set {ρ : En} {σ : St} {k : Nat} {s : Slot} {v : V} (hs : ∀ d, s ≠ .own d) (h : ∀ (i j : Nat) (d e : D) (a : Addr), ρ[i]? = some (.own d) → ρ[j]? = some (.own e) → σ[i]? = some (some (.ref a)) → σ[j]? = some (some (.ref a)) → i = j) :
    ∀ (i j : Nat) (d e : D) (a : Addr), (ρ.set k s)[i]? = some (.own d) → (ρ.set k s)[j]? = some (.own e) → (σ.set k (some v))[i]? = some (some (.ref a)) → (σ.set k (some v))[j]? = some (some (.ref a)) → i = j := by
  intro i j d e a h1 h2 h3 h4
  have ne : ∀ (i : Nat) (d : D), (ρ.set k s)[i]? = some (.own d) → k ≠ i := fun i d h1 e => by
    subst e
    have hl : k < ρ.length := by
      have := (List.getElem?_eq_some_iff.mp h1).1
      simpa using this
    rw [List.getElem?_set_self hl] at h1
    exact hs d (Option.some.inj h1)
  have n1 := ne i d h1
  have n2 := ne j e h2
  rw [List.getElem?_set_ne n1] at h1 h3
  rw [List.getElem?_set_ne n2] at h2 h4
  exact h i j d e a h1 h2 h3 h4
theorem RS.setv {K : PySem.W.Frag} {P : Addr → Prop} {ua : Addr} {F H : Hp} {ρ : En} {u : U} {σ : St} {i : Nat} {v : V} {d : D} (R : RS K ct P ua F ρ u σ H) (r : Rep K ct ua F v d) : RS K ct P ua F (ρ.set i (.val d)) u (σ.set i (some v)) H :=
  ⟨R.toRE.setv r, sep_set (fun _ h => by cases h) R.sep, fun j c gs a h1 h2 => by
    by_cases e : i = j
    · subst e
      have hl : i < ρ.length := by
        have := (List.getElem?_eq_some_iff.mp h1).1
        simpa using this
      rw [List.getElem?_set_self hl] at h1; cases h1
    · rw [List.getElem?_set_ne e] at h1 h2
      exact R.obj j c gs a h1 h2⟩
def sSet (i : Nat) (f : DE) : DS := fun ρ u => thenS (f ρ u) ρ fun d u => .nx (ρ.set i (.val d)) u
theorem tAsg_set {K : PySem.W.Frag} {f : DE} {i : Nat} : ∀ D σ H, tS K ct E (sSet i f) D σ H → tAsg (tG K ct (rD K ct) E f) (gName i) D σ H := fun D σ H ⟨ua, F, ρ, u, O, P, R, o, q⟩ =>
  tS_bind R o q fun F1 v H1 x u1 s R1 r q1 => q1 F1 H1 _ (StS.refl R1.toBs) (R1.setv r) fun b z => .inl (o b (own_set (fun _ h => by cases h) z))
theorem psd_set {i : Nat} {x : Str} {e : Expr} {f : DE} {pos pos' : Pos} (hN : X.N.Nodup) (hi : X.N[i]? = some x) (hx : Loc X.env.scope x) (he : PD X ct E e f) (hs : swapsWith e (some (.Name x pos')) pos.line X.env = pure false := by rfl) (hf : X.fn x = true ∨ X.env.scope.names.lookup x = some .local := by first | exact .inl rfl | exact .inr rfl | assumption) :
    PSD X ct E (.Assign [.Name x pos'] e pos) (sSet i f) := PS.imp (ps_set hN hi hx he hs hf) tAsg_set
end
end Dl
set_option Elab.async false
set_option linter.all false
set_option maxRecDepth 100000
set_option maxHeartbeats 4000000
/-! Dl7: comprehensions as rules, new things of one's own and what is done to them, loops. -/
namespace Dl
open PySem L2 Evl

/-! ### comprehensions -/
section
variable {X : Cx} {ct : Nat → Addr} {E : St → XK}
abbrev BPG (X : Cx) (scope : Scope) (tg : Expr) (g : Tg) : Prop := ∀ (s : Shared) (H : Hp) (C : Addr) (cl : List (Str × Addr)) (fp : List Addr), PG (X.blk s H scope (compEnvC scope cl C X.env) fp) tg (tgG X.K g)
abbrev BPT (X : Cx) (ct : Nat → Addr) (scope : Scope) (es : List Expr) (t : DB) : Prop := ∀ (s : Shared) (H : Hp) (C : Addr) (cl : List (Str × Addr)) (fp : List Addr), PDTs (X.blk s H scope (compEnvC scope cl C X.env) fp) ct E0' es t
abbrev BPE (X : Cx) (ct : Nat → Addr) (scope : Scope) (e : Expr) (t : DE) : Prop := ∀ (s : Shared) (H : Hp) (C : Addr) (cl : List (Str × Addr)) (fp : List Addr), PD (X.blk s H scope (compEnvC scope cl C X.env) fp) ct E0' e t
theorem pdts_nil : PDTs X ct E [] dYes := ⟨fun pins s σ H Q I ⟨ua, F, ρ, u, R, q⟩ => pts_nil.run pins s σ H Q I (out.ret R.toBs q rfl)⟩
theorem pdts_one {e : Expr} {t : DB} (h : PDB X ct E e t) : PDTs X ct E [e] t := pts_one h
theorem pd_lc {elt tg iter : Expr} {ifs : List Expr} {scope : Scope} {own : List (Str × Nat)} {pos : Pos} {fi : DI} {g : Tg} {t : DB} {e : DE} (hc : X.calm = true) (hN : X.N.Nodup) (hT : ∀ i ∈ g.slots, i ∈ own.map (·.2)) (hi : PDI X ct E tg iter fi) (ok : BlkOk X.N X.env.scope scope own)
    (hg : BPG X scope tg g) (ht : BPT X ct scope ifs t) (he : BPE X ct scope elt e) (hs : ∀ x, foldedSetIterable iter X.env x = pure x := by intro _; rfl) : PD X ct E (.ListComp elt [⟨tg, iter, ifs, 0⟩] scope pos) (dLc fi g t e (own.map (·.2))) :=
  PE.imp (pe_lc (tt := tG X.K ct rB E0' t) (te := tG X.K ct (rD X.K ct) E0' e) hc hN hi ok hg ht he hs) (tLc_of hT)
theorem pd_dc {kx vx tg iter : Expr} {ifs : List Expr} {scope : Scope} {own : List (Str × Nat)} {pos : Pos} {fi : DI} {g : Tg} {t : DB} {ek ev : DE} (hc : X.calm = true) (hN : X.N.Nodup) (hT : ∀ i ∈ g.slots, i ∈ own.map (·.2)) (hi : PDI X ct E tg iter fi) (ok : BlkOk X.N X.env.scope scope own)
    (hg : BPG X scope tg g) (ht : BPT X ct scope ifs t) (hk : BPE X ct scope kx ek) (he : BPE X ct scope vx ev) (hs : ∀ x, foldedSetIterable iter X.env x = pure x := by intro _; rfl) : PD X ct E (.DictComp kx vx [⟨tg, iter, ifs, 0⟩] scope pos) (dDc fi g t ek ev (own.map (·.2))) :=
  PE.imp (pe_dc (tt := tG X.K ct rB E0' t) (tk := tG X.K ct (rD X.K ct) E0' ek) (tv := tG X.K ct (rD X.K ct) E0' ev) hc hN hi ok hg ht hk he hs) (tDc_of hT)
/-- y = [..] -/
theorem psd_setLc {i : Nat} {y : Str} {py : Pos} {elt tg iter : Expr} {ifs : List Expr} {scope : Scope} {own : List (Str × Nat)} {pos spos : Pos} {fi : DI} {g : Tg} {t : DB} {e : DE} (hc : X.calm = true) (hN : X.N.Nodup) (hy : X.N[i]? = some y) (hyl : X.env.scope.names.lookup y = some .local)
    (hsw : swapsWith (.ListComp elt [⟨tg, iter, ifs, 0⟩] scope pos) (some (.Name y py)) spos.line X.env = pure true) (hT : ∀ i ∈ g.slots, i ∈ own.map (·.2)) (hi : PDI X ct E tg iter fi) (ok : BlkOk X.N X.env.scope scope own)
    (hg : BPG X scope tg g) (ht : BPT X ct scope ifs t) (he : BPE X ct scope elt e) (hs : ∀ x, foldedSetIterable iter X.env x = pure x := by intro _; rfl) :
    PSD X ct E (.Assign [.Name y py] (.ListComp elt [⟨tg, iter, ifs, 0⟩] scope pos) spos) (sSet i (dLc fi g t e (own.map (·.2)))) := by
  refine PS.imp (ps_setLc (tt := tG X.K ct rB E0' t) (te := tG X.K ct (rD X.K ct) E0' e) hc hN hy hyl hsw hi ok hg ht he hs) fun D σ H h => ?_
  have h := tAsg_set D σ H h
  exact tLc_of hT σ H _ h
/-- a dict's comprehension, stored -/
theorem ps_setDc {i : Nat} {y : Str} {py : Pos} {kx vx tg iter : Expr} {ifs : List Expr} {scope : Scope} {own : List (Str × Nat)} {pos spos : Pos} {wi : TI} {g : TG} {tt : TT} {tk tv : TE} (hc : X.calm = true) (hN : X.N.Nodup) (hy : X.N[i]? = some y) (hyl : X.env.scope.names.lookup y = some .local)
    (hsw : swapsWith (.DictComp kx vx [⟨tg, iter, ifs, 0⟩] scope pos) (some (.Name y py)) spos.line X.env = pure true) (hi : PI X tg iter wi) (ok : BlkOk X.N X.env.scope scope own)
    (hg : ∀ (s : Shared) (H : Hp) (C : Addr) (cl : List (Str × Addr)) (fp : List Addr), PG (X.blk s H scope (compEnvC scope cl C X.env) fp) tg g) (ht : ∀ (s : Shared) (H : Hp) (C : Addr) (cl : List (Str × Addr)) (fp : List Addr), PTs (X.blk s H scope (compEnvC scope cl C X.env) fp) ifs tt)
    (hk : ∀ (s : Shared) (H : Hp) (C : Addr) (cl : List (Str × Addr)) (fp : List Addr), PE (X.blk s H scope (compEnvC scope cl C X.env) fp) kx tk)
    (he : ∀ (s : Shared) (H : Hp) (C : Addr) (cl : List (Str × Addr)) (fp : List Addr), PE (X.blk s H scope (compEnvC scope cl C X.env) fp) vx tv) (hs : ∀ x, foldedSetIterable iter X.env x = pure x := by intro _; rfl) :
    PS X (.Assign [.Name y py] (.DictComp kx vx [⟨tg, iter, ifs, 0⟩] scope pos) spos) (tAsg (tDc wi g tt tk tv (own.map (·.2))) (gName i)) := by
  refine ⟨fun pins s σ H D I h => ?_⟩
  rw [exec_Assign_Name_used _ _ _ _ hsw]
  refine wpAny_bind (wpAny_standAt (wpAny_bind ?_))
  show wpAny _ X.A (do let _ ← comprehension (.DictComp kx vx [⟨tg, iter, ifs, 0⟩] scope pos) scope X.env (firstIterPos [⟨tg, iter, ifs, 0⟩] pos) newDict false (eval iter X.env) (some (assign (.Name y py) X.env))) _ _ s
  have h : tDc wi g tt tk tv (own.map (·.2)) σ H (fun x H1 => gName i x σ H1 D.nx) := h
  refine wpAny_bind (thn (dc_core (Qf := fun _ s' => SP X pins D .next s') hc hN I hi ok hg ht hk he hs h fun L C s' m H' I' q hn f => ?_) fun _ s' hq => wpAny_pure (wpAny_pure hq))
  show wpAny _ _ (assign (.Name y py) X.env (.ref L)) _ _ _
  refine wpAny_assign_Name (store_ok2 (v := V.ref L) I' hN hy (.inl hyl) rfl (fun s2 I2 ⟨a, sb, ha⟩ => ?_) (.inr hyl))
  obtain ⟨f0, f1, f2, f3, f4, f5⟩ := f
  have haC : C ≠ a := by
    rcases ha with z | z
    · rw [z]; exact f1
    · exact fun e => f4 y a z e.symm
  refine ⟨m, hn.sameBut sb haC, fun h3 sb3 => ?_⟩
  exact ⟨_, H', I2.turned (t' := s2.toks) (fun b o hb e => (sb3.2 b hb).trans e) f0 f1 f3 f4 f5, q⟩
theorem swd_true {kx vx : Expr} {gs : List Comprehension} {scope : Scope} {pos py : Pos} {y : Str} {l : Nat} {env : Env} (hk : env.scope.kind = .function) (hy : env.scope.names.lookup y = some .local) (hl : (py.line == pos.line) = true)
    (ha : (scope.names.any fun (n, k) => n == y && (k == .local || k == .cell)) = false) : swapsWith (.DictComp kx vx gs scope pos) (some (.Name y py)) l env = pure true := by
  have ky : env.kindOf y = some .local := hy
  have hb : env.blockKind = .function := by unfold Env.blockKind; rw [hk]; rfl
  unfold swapsWith
  simp only [hb, ky, ha, Expr.pos, hl]
  rfl
theorem psd_setDc {i : Nat} {y : Str} {py : Pos} {kx vx tg iter : Expr} {ifs : List Expr} {scope : Scope} {own : List (Str × Nat)} {pos spos : Pos} {fi : DI} {g : Tg} {t : DB} {ek ev : DE} (hc : X.calm = true) (hN : X.N.Nodup) (hy : X.N[i]? = some y) (hyl : X.env.scope.names.lookup y = some .local)
    (hsw : swapsWith (.DictComp kx vx [⟨tg, iter, ifs, 0⟩] scope pos) (some (.Name y py)) spos.line X.env = pure true) (hT : ∀ i ∈ g.slots, i ∈ own.map (·.2)) (hi : PDI X ct E tg iter fi) (ok : BlkOk X.N X.env.scope scope own)
    (hg : BPG X scope tg g) (ht : BPT X ct scope ifs t) (hk : BPE X ct scope kx ek) (he : BPE X ct scope vx ev) (hs : ∀ x, foldedSetIterable iter X.env x = pure x := by intro _; rfl) :
    PSD X ct E (.Assign [.Name y py] (.DictComp kx vx [⟨tg, iter, ifs, 0⟩] scope pos) spos) (sSet i (dDc fi g t ek ev (own.map (·.2)))) := by
  refine PS.imp (ps_setDc (tt := tG X.K ct rB E0' t) (tk := tG X.K ct (rD X.K ct) E0' ek) (tv := tG X.K ct (rD X.K ct) E0' ev) hc hN hy hyl hsw hi ok hg ht hk he hs) fun D σ H h => ?_
  have h := tAsg_set D σ H h
  exact tDc_of hT σ H _ h
end

/-! ### new things -/
def outN (K : PySem.W.Frag) (ct : Nat → Addr) (ua : Addr) (F H : Hp) (E : XK) (r : Res D) (Q : VK) : Prop := match r with
  | .ok d u' => ∀ F' a H', Stp ua F H F' H' → Urn ua u' H' → a ≠ ua → F' a = none → H a = none → OwnAt K ct ua F' H' a d → Q (.ref a) H'
  | .exc c gs u' => ∀ F' H' dd fs, Stp ua F H F' H' → Urn ua u' H' → H' dd = some (.xd fs) → H dd = none → F' dd = none → gs.map (·.1) = fs.map (·.1) → Reps K ct ua F' (fs.map (·.2)) (gs.map (·.2)) → E (.ref (ct c)) (some dd) H'
  | .no => False
section
variable {X : Cx} {ct : Nat → Addr} {E : St → XK} {K : PySem.W.Frag} {ua : Addr} {F F1 F2 H H1 H2 : Hp} {ρ ρ1 : En} {u u1 : U} {σ σ1 : St}
theorem outN.mono {r : Res D} {E : XK} {Q : VK} (b : Bs ua F u H) (h : outN K ct ua F H E r Q) (s : Stp ua F H F1 H1) (hu : Urn ua u1 H1) : outN K ct ua F1 H1 E r Q := by
  cases r with
  | ok d u' => exact fun F' a H' t hu' n1 n2 n3 o => h F' a H' (s.trans t) hu' n1 n2 (back_none s hu n3 b.urn) o
  | exc c gs u' => exact fun F' H' dd fs t hu' hd h0 hf k r => h F' H' dd fs (s.trans t) hu' hd (back_none s hu h0 b.urn) hf k r
  | no => exact h
def tN (K : PySem.W.Frag) (ct : Nat → Addr) (E : St → XK) (f : DE) : TE := fun σ H Q => ∃ ua F ρ u, RE K ct ua F ρ u σ H ∧ outN K ct ua F H (E σ) (f ρ u) Q
/-- e makes a new thing -/
def PDN (X : Cx) (ct : Nat → Addr) (E : St → XK) (e : Expr) (f : DE) : Prop := PE X e (tN X.K ct E f)
theorem tN_bind {α β : Type} {rel : Addr → Hp → β → α → Prop} {f : En → M α} {g : α → M D} {Q : VK} {Q1 : β → Hp → Prop} (R : RE K ct ua F ρ u σ H) (h : outN K ct ua F H (E σ) (bnd (f ρ) g u) Q)
    (k : ∀ F1 v H1 x u1, Stp ua F H F1 H1 → RE K ct ua F1 ρ u1 σ H1 → rel ua F1 v x → outN K ct ua F1 H1 (E σ) (g x u1) Q → Q1 v H1) : tG K ct rel E f σ H Q1 := by
  refine ⟨ua, F, ρ, u, R, ?_⟩
  unfold bnd at h
  cases e : f ρ u with
  | ok x u1 =>
    rw [e] at h
    exact fun F1 v H1 s hu r => k F1 v H1 x u1 s (R.step s hu) r (h.mono R.toBs s hu)
  | exc c gs u1 =>
    rw [e] at h
    exact h
  | no =>
    rw [e] at h
    exact h
theorem outN_opt {α : Type} {o : Option α} {g : α → M D} {P : Prop} {E : XK} {Q : VK} (h : outN K ct ua F H E (bnd (opt o) g u) Q) (k : ∀ d, o = some d → outN K ct ua F H E (g d u) Q → P) : P := by
  cases o with
  | none => exact (show False from h).elim
  | some d => exact k d rfl h
theorem stp_over {p : Addr} {o : HO} (b : Bs ua F u H) (hp : H p = none) : Stp ua F H F (upd H p o) :=
  Stp.skip b (b.ex.trans (Ex.new hp)) fun a w _ h => by rw [upd_ne (ne_of_none h hp)]; exact h
theorem outN.fresh {E : XK} {Q : VK} {d : D} {p : Addr} {o : HO} (b : Bs ua F u H) (h : outN K ct ua F H E (ret d u) Q) (hp : H p = none) (w : OwnAt K ct ua F (upd H p o) p d) : Q (.ref p) (upd H p o) :=
  h F p (upd H p o) (stp_over b hp) (by show upd H p o ua = _; rw [upd_ne (ne_of_none b.urn hp)]; exact b.urn) (fun e => by rw [e, b.urn] at hp; cases hp) (fresh_back b.ex hp) hp w
theorem pdn_lst {es : List Expr} {g : DA} {pos : Pos} (h : PDA X ct E es g) : PDN X ct E (.List es pos) (dLst g) := by
  refine PE.imp (pe_lst h) fun σ H Q ⟨ua, F, ρ, u, R, q⟩ => ?_
  refine tN_bind R q fun F1 vs H1 xs u1 s1 R1 r1 q1 => ?_
  have q2 : outN X.K ct ua F1 H1 (E σ) (bnd (opt (chk (small xs.length) (D.lst xs))) ret u1) Q := by
    cases h : chk (small xs.length) (D.lst xs) <;> (rw [h] at q1; exact q1)
  refine outN_opt q2 fun d hd q2 => ?_
  obtain ⟨hs, rfl⟩ := chk_some hd
  exact ⟨by rw [r1.length]; exact small_line hs, fun p hp => outN.fresh R1.toBs q2 hp ⟨vs, upd_same, r1⟩⟩
/-- {} -/
def dMt : DE := fun _ => ret (.dct [])
theorem pdn_dct {pos : Pos} : PDN X ct E (.Dict [] [] pos) dMt := by
  refine PE.imp pe_dnewK ?_
  rintro σ H Q ⟨ua, F, ρ, u, R, q⟩ p hp
  exact outN.fresh R.toBs q hp ⟨[], upd_same, List.nodup_nil, rfl, .nil⟩
theorem pdn_lc {elt tg iter : Expr} {ifs : List Expr} {scope : Scope} {own : List (Str × Nat)} {pos : Pos} {fi : DI} {g : Tg} {t : DB} {e : DE} (hc : X.calm = true) (hN : X.N.Nodup) (hT : ∀ i ∈ g.slots, i ∈ own.map (·.2)) (hi : PDI X ct E tg iter fi) (ok : BlkOk X.N X.env.scope scope own)
    (hg : BPG X scope tg g) (ht : BPT X ct scope ifs t) (he : BPE X ct scope elt e) (hs : ∀ x, foldedSetIterable iter X.env x = pure x := by intro _; rfl) : PDN X ct E (.ListComp elt [⟨tg, iter, ifs, 0⟩] scope pos) (dLc fi g t e (own.map (·.2))) := by
  refine PE.imp (pe_lc (tt := tG X.K ct rB E0' t) (te := tG X.K ct (rD X.K ct) E0' e) hc hN hi ok hg ht he hs) ?_
  rintro σ H Q ⟨ua, F, ρ, u, R, q⟩
  refine tN_bind R q fun F1 J H1 xs u1 s1 R1 W q1 => ?_
  have hs : small xs.length = true := by
    cases h : small xs.length with
    | true => rfl
    | false => simp only [h, chk] at q1; exact (show False from q1).elim
  simp only [hs, chk, if_pos] at q1
  exact lc_go (Φ := fun r => outN X.K ct ua F1 H1 (E σ) r Q) (fun h => h) hT R1 W hs q1 fun F' u' H' A acc accV L ra q3 => q3 _ _ _ L.st L.urn (L.ne R1.urn) L.nd L.nn ⟨accV, L.hd, ra⟩
theorem pdn_dc {kx vx tg iter : Expr} {ifs : List Expr} {scope : Scope} {own : List (Str × Nat)} {pos : Pos} {fi : DI} {g : Tg} {t : DB} {ek ev : DE} (hc : X.calm = true) (hN : X.N.Nodup) (hT : ∀ i ∈ g.slots, i ∈ own.map (·.2)) (hi : PDI X ct E tg iter fi) (ok : BlkOk X.N X.env.scope scope own)
    (hg : BPG X scope tg g) (ht : BPT X ct scope ifs t) (hk : BPE X ct scope kx ek) (he : BPE X ct scope vx ev) (hs : ∀ x, foldedSetIterable iter X.env x = pure x := by intro _; rfl) : PDN X ct E (.DictComp kx vx [⟨tg, iter, ifs, 0⟩] scope pos) (dDc fi g t ek ev (own.map (·.2))) := by
  refine PE.imp (pe_dc (tt := tG X.K ct rB E0' t) (tk := tG X.K ct (rD X.K ct) E0' ek) (tv := tG X.K ct (rD X.K ct) E0' ev) hc hN hi ok hg ht hk he hs) ?_
  rintro σ H Q ⟨ua, F, ρ, u, R, q⟩
  refine tN_bind R q fun F1 J H1 xs u1 s1 R1 W q1 => ?_
  have hs : small xs.length = true := by
    cases h : small xs.length with
    | true => rfl
    | false => simp only [h, chk] at q1; exact (show False from q1).elim
  simp only [hs, chk, if_pos] at q1
  exact dc_go (Φ := fun r => outN X.K ct ua F1 H1 (E σ) r Q) (fun h => h) hT R1 W hs q1 fun F' u' H' A acc accV L ra q3 => q3 _ _ _ L.st L.urn (L.ne R1.urn) L.nd L.nn ⟨accV, L.hd, ra.nd, ra.ks, ra.rs⟩
end
end Dl
set_option Elab.async false
set_option linter.all false
set_option maxRecDepth 100000
set_option maxHeartbeats 4000000
/-! Dl8: what is one's own: stored, changed; loops. -/
namespace Dl
open PySem L2 Evl
section
variable {X : Cx} {ct : Nat → Addr} {E : St → XK} {K : PySem.W.Frag} {ua : Addr} {P : Addr → Prop} {F F1 F2 H H1 H2 : Hp} {ρ ρ1 : En} {u u1 : U} {σ σ1 : St} {O : Addr → Prop}
/-- list(e) -/
theorem pdn_list {p pos : Pos} {e : Expr} {es : List Expr} {g : DA} (hg : Gl X "list") (hm : X.mg "list" = none) (ha : PDA X ct E (e :: es) g)
    (he : starEach (e :: es) X.env = (false, eval e X.env) :: starEach es X.env := by rfl) (hpl : (backTo pos (starEach es X.env)).any (·.1) = false := by rfl) : PDN X ct E (.Call (.Name "list" p) (e :: es) [] pos) (dCall oList g) := by
  refine PE.imp (pe_callTy call_list_of hg hm PyProof.Rows.boot_list ha (by decide) (by decide) he hpl) ?_
  rintro σ H Q ⟨ua, F, ρ, u, R, q⟩
  refine tN_bind R q fun F1 vs H1 xs u1 s1 R1 r1 q1 => ?_
  have q2 : outN X.K ct ua F1 H1 (E σ) (bnd (opt (oList xs)) ret u1) Q := by
    cases h : oList xs <;> (rw [h] at q1; exact q1)
  refine outN_opt q2 fun d hd q2 => ?_
  match xs, hd with
  | [.lst ds], hd =>
    obtain ⟨v, rfl, rv⟩ := reps1 r1
    cases rv with | lst h1 h2 =>
    cases hd
    exact ⟨_, _, rfl, .inl (sq_of (R1.ex _ _ h1)), fun p hp => outN.fresh R1.toBs q2 hp ⟨_, upd_same, h2⟩⟩
  | [.tup ds], hd =>
    obtain ⟨v, rfl, rv⟩ := reps1 r1
    cases rv with | tup h1 h2 =>
    cases hd
    exact ⟨_, _, rfl, .inr (ex_t R1.ex h1), fun p hp => outN.fresh R1.toBs q2 hp ⟨_, upd_same, h2⟩⟩

/-! ### stored -/
def isOb : D → Bool
  | .obj _ _ => true
  | _ => false
theorem RS.setOwn {i : Nat} {a : Addr} {d : D} (nb : isOb d = false) (R : RS K ct P ua F ρ u σ H) (n1 : a ≠ ua) (n2 : F a = none) (n3 : ¬ Own ρ σ a) (o : OwnAt K ct ua F H a d) : RS K ct P ua F (ρ.set i (.own d)) u (σ.set i (some (.ref a))) H where
  toBs := R.toBs
  len := by rw [List.length_set, List.length_set]; exact R.len
  vals := fun j d' e => by
    by_cases h : i = j
    · subst h
      have hl : i < ρ.length := by
        have := (List.getElem?_eq_some_iff.mp e).1
        simpa using this
      rw [List.getElem?_set_self hl] at e
      cases e
    · rw [List.getElem?_set_ne h] at e
      obtain ⟨w, h1, h2⟩ := R.vals j d' e
      exact ⟨w, by rw [List.getElem?_set_ne h]; exact h1, h2⟩
  owns := fun j d' e => by
    by_cases h : i = j
    · subst h
      have hl : i < ρ.length := by
        have := (List.getElem?_eq_some_iff.mp e).1
        simpa using this
      rw [List.getElem?_set_self hl] at e
      cases e
      exact ⟨a, List.getElem?_set_self (by rw [R.len]; exact hl), n1, n2, o⟩
    · rw [List.getElem?_set_ne h] at e
      obtain ⟨w, h1, h2⟩ := R.owns j d' e
      exact ⟨w, by rw [List.getElem?_set_ne h]; exact h1, h2⟩
  obj := fun j c gs b h1 h2 => by
    by_cases e : i = j
    · subst e
      have hl : i < ρ.length := by
        have := (List.getElem?_eq_some_iff.mp h1).1
        simpa using this
      rw [List.getElem?_set_self hl] at h1; cases h1; cases nb
    · rw [List.getElem?_set_ne e] at h1 h2
      exact R.obj j c gs b h1 h2
  sep := by
    intro j k d' e' b h1 h2 h3 h4
    by_cases ej : i = j
    · by_cases ek : i = k
      · rw [← ej, ← ek]
      · subst ej
        have hl : i < ρ.length := by
          have := (List.getElem?_eq_some_iff.mp h1).1
          simpa using this
        rw [List.getElem?_set_self (by rw [R.len]; exact hl)] at h3
        cases h3
        rw [List.getElem?_set_ne ek] at h2 h4
        exact absurd ⟨k, e', h2, h4⟩ n3
    · by_cases ek : i = k
      · subst ek
        have hl : i < ρ.length := by
          have := (List.getElem?_eq_some_iff.mp h2).1
          simpa using this
        rw [List.getElem?_set_self (by rw [R.len]; exact hl)] at h4
        cases h4
        rw [List.getElem?_set_ne ej] at h1 h3
        exact absurd ⟨j, d', h1, h3⟩ n3
      · rw [List.getElem?_set_ne ej] at h1 h3
        rw [List.getElem?_set_ne ek] at h2 h4
        exact R.sep j k d' e' b h1 h2 h3 h4
theorem own_setOwn {i : Nat} {a b : Addr} {d : D} (h : Own (ρ.set i (.own d)) (σ.set i (some (.ref a))) b) : b = a ∨ Own ρ σ b := by
  obtain ⟨j, d', h1, h2⟩ := h
  by_cases e : i = j
  · subst e
    have hl : i < σ.length := by
      have := (List.getElem?_eq_some_iff.mp h2).1
      simpa using this
    rw [List.getElem?_set_self hl] at h2
    cases h2
    exact .inl rfl
  · rw [List.getElem?_set_ne e] at h1 h2
    exact .inr ⟨j, d', h1, h2⟩
theorem not_own_new {a : Addr} (R : RE K ct ua F ρ u σ H) (h : H a = none) : ¬ Own ρ σ a := fun o => by
  obtain ⟨_, _, w, e⟩ := R.own_some o
  rw [h] at e; cases e
/-- what an expression that may make a new thing gives -/
inductive MD where
  | val (d : D)
  | own (d : D)
def MD.slot : MD → Slot
  | .val d => .val d
  | .own d => .own d
inductive MAt (K : PySem.W.Frag) (ct : Nat → Addr) (ua : Addr) (F H0 H : Hp) : List V → List MD → Prop
  | nil : MAt K ct ua F H0 H [] []
  | val {v : V} {d : D} {vs : List V} {ms : List MD} : Rep K ct ua F v d → MAt K ct ua F H0 H vs ms → MAt K ct ua F H0 H (v :: vs) (.val d :: ms)
  | own {a : Addr} {d : D} {vs : List V} {ms : List MD} : isOb d = false → a ≠ ua → F a = none → H0 a = none → OwnAt K ct ua F H a d → (∀ v ∈ vs, ∀ m ∈ ms, (∃ d', m = .own d') → H0 a = none) → (∀ b d', (V.ref b, MD.own d') ∈ vs.zip ms → b ≠ a) → MAt K ct ua F H0 H vs ms → MAt K ct ua F H0 H (.ref a :: vs) (.own d :: ms)
theorem MAt.back {vs : List V} {ms : List MD} (b : Bs ua F u H) (s : Stp ua F H F1 H1) (hu : Urn ua u1 H1) (m : MAt K ct ua F2 H1 H2 vs ms) : MAt K ct ua F2 H H2 vs ms := by
  induction m with
  | nil => exact .nil
  | val r _ ih => exact .val r ih
  | own nb n1 n2 n3 o _ z _ ih => exact .own nb n1 n2 (back_none s hu n3 b.urn) o (fun _ _ _ _ _ => back_none s hu n3 b.urn) z ih
theorem MAt.ne {vs : List V} {ms : List MD} {a : Addr} (m : MAt K ct ua F H1 H vs ms) (h : ∃ o, H1 a = some o) : ∀ b d', (V.ref b, MD.own d') ∈ vs.zip ms → b ≠ a := by
  induction m with
  | nil => intro b d' h; cases h
  | val _ _ ih =>
    intro b d' h
    rcases List.mem_cons.mp h with z | z
    · cases z
    · exact ih b d' z
  | own _ n1 n2 n3 _ _ _ _ ih =>
    intro b d' h'
    rcases List.mem_cons.mp h' with z | z
    · cases z
      intro e
      obtain ⟨o, q⟩ := h
      rw [← e, n3] at q; cases q
    · exact ih b d' z
def outM (K : PySem.W.Frag) (ct : Nat → Addr) (ua : Addr) (F H : Hp) (E : XK) (r : Res (List MD)) (Q : List V → Hp → Prop) : Prop := match r with
  | .ok ms u' => ∀ F' vs H', Stp ua F H F' H' → Urn ua u' H' → MAt K ct ua F' H H' vs ms → Q vs H'
  | .exc c gs u' => ∀ F' H' dd fs, Stp ua F H F' H' → Urn ua u' H' → H' dd = some (.xd fs) → H dd = none → F' dd = none → gs.map (·.1) = fs.map (·.1) → Reps K ct ua F' (fs.map (·.2)) (gs.map (·.2)) → E (.ref (ct c)) (some dd) H'
  | .no => False
abbrev DM := En → M (List MD)
def tM (K : PySem.W.Frag) (ct : Nat → Addr) (E : St → XK) (f : DM) : TA := fun σ H Q => ∃ ua F ρ u, RE K ct ua F ρ u σ H ∧ outM K ct ua F H (E σ) (f ρ u) Q
def PDM (X : Cx) (ct : Nat → Addr) (E : St → XK) (es : List Expr) (f : DM) : Prop := PA X es (tM X.K ct E f)
def mNil : DM := fun _ => ret []
def mVal (f : DE) (g : DM) : DM := fun ρ => bnd (f ρ) fun x => bnd (g ρ) fun xs => ret (.val x :: xs)
def mOwn (f : DE) (g : DM) : DM := fun ρ => bnd (f ρ) fun x => bnd (g ρ) fun xs => if isOb x = true then stuck else ret (.own x :: xs)
theorem pdm_nil : PDM X ct E [] mNil := PA.imp pa_nil fun σ H Q ⟨ua, F, ρ, u, R, q⟩ => q F [] H (Stp.refl R.toBs) R.urn .nil
theorem OwnAt.step {a : Addr} {d : D} (o : OwnAt K ct ua F H a d) (n1 : a ≠ ua) (n2 : F a = none) (s : Stp ua F H F1 H1) : F1 a = none ∧ OwnAt K ct ua F1 H1 a d := by
  refine ⟨?_, OwnAt.mono s.exF (fun o' q => s.kp a o' n1 q) o⟩
  cases q : F1 a with
  | none => rfl
  | some w =>
    rcases s.fr a w q with z | z
    · rw [n2] at z; cases z
    · obtain ⟨_, e⟩ := OwnAt.there o
      rw [z] at e; cases e
theorem outM.mono {r : Res (List MD)} {E : XK} {Q : List V → Hp → Prop} (b : Bs ua F u H) (h : outM K ct ua F H E r Q) (s : Stp ua F H F1 H1) (hu : Urn ua u1 H1) : outM K ct ua F1 H1 E r Q := by
  cases r with
  | ok d u' => exact fun F' vs H' t hu' m => h F' vs H' (s.trans t) hu' (m.back b s hu)
  | exc c gs u' => exact fun F' H' dd fs t hu' hd h0 hf k r => h F' H' dd fs (s.trans t) hu' hd (back_none s hu h0 b.urn) hf k r
  | no => exact h
theorem pdm_val {e : Expr} {es : List Expr} {f : DE} {g : DM} (he : PD X ct E e f) (hs : PDM X ct E es g) (hst : starEach (e :: es) X.env = (false, eval e X.env) :: starEach es X.env := by rfl) : PDM X ct E (e :: es) (mVal f g) := by
  refine PA.imp (pa_cons he hs hst) fun σ H Q ⟨ua, F, ρ, u, R, q⟩ => ?_
  refine ⟨ua, F, ρ, u, R, ?_⟩
  unfold mVal bnd at q
  cases ef : f ρ u with
  | no => rw [ef] at q; exact q
  | exc c gs u1 => rw [ef] at q; exact q
  | ok x u1 =>
    rw [ef] at q
    intro F1 v H1 s1 hu1 r1
    refine ⟨ua, F1, ρ, u1, R.step s1 hu1, ?_⟩
    dsimp only at q
    cases eg : g ρ u1 with
    | no => rw [eg] at q; exact q
    | exc c gs u2 => rw [eg] at q; exact outM.mono (r := .exc c gs u2) R.toBs q s1 hu1
    | ok xs u2 =>
      rw [eg] at q
      intro F2 vs H2 s2 hu2 m
      exact q F2 _ H2 (s1.trans s2) hu2 (.val (r1.mono s2.exF) (m.back R.toBs s1 hu1))
theorem pdm_own {e : Expr} {es : List Expr} {f : DE} {g : DM} (he : PDN X ct E e f) (hs : PDM X ct E es g) (hst : starEach (e :: es) X.env = (false, eval e X.env) :: starEach es X.env := by rfl) : PDM X ct E (e :: es) (mOwn f g) := by
  refine PA.imp (pa_cons he hs hst) fun σ H Q ⟨ua, F, ρ, u, R, q⟩ => ?_
  refine ⟨ua, F, ρ, u, R, ?_⟩
  unfold mOwn bnd at q
  cases ef : f ρ u with
  | no => rw [ef] at q; exact q
  | exc c gs u1 => rw [ef] at q; exact q
  | ok x u1 =>
    rw [ef] at q
    intro F1 a H1 s1 hu1 n1 n2 n3 o1
    refine ⟨ua, F1, ρ, u1, R.step s1 hu1, ?_⟩
    dsimp only at q
    cases eg : g ρ u1 with
    | no => rw [eg] at q; exact q
    | exc c gs u2 => rw [eg] at q; exact outM.mono (r := .exc c gs u2) R.toBs q s1 hu1
    | ok xs u2 =>
      rw [eg] at q
      intro F2 vs H2 s2 hu2 m
      obtain ⟨n4, o2⟩ := o1.step n1 n2 s2
      dsimp only at q
      split at q
      · exact (show False from q).elim
      rename_i nb
      exact q F2 _ H2 (s1.trans s2) hu2 (.own (Bool.eq_false_iff.mpr nb) n1 n4 n3 o2 (fun _ _ _ _ _ => n3) (m.ne (OwnAt.there o1)) (m.back R.toBs s1 hu1))
def setMs : List Nat → List MD → En → En
  | i :: is, m :: ms, ρ => setMs is ms (ρ.set i m.slot)
  | _, _, ρ => ρ
theorem RS.setMs {H0 : Hp} : ∀ {is : List Nat} {vs : List V} {ms : List MD} {ρ : En} {σ : St}, RS K ct P ua F ρ u σ H → MAt K ct ua F H0 H vs ms → (∀ b d', (V.ref b, MD.own d') ∈ vs.zip ms → ¬ Own ρ σ b) →
    RS K ct P ua F (Dl.setMs is ms ρ) u (setVs is vs σ) H ∧ ∀ b, Own (Dl.setMs is ms ρ) (setVs is vs σ) b → Own ρ σ b ∨ H0 b = none := by
  intro is
  induction is with
  | nil =>
    intro vs ms ρ σ R m _
    have e1 : Dl.setMs [] ms ρ = ρ := by cases ms <;> rfl
    have e2 : setVs [] vs σ = σ := by cases vs <;> rfl
    rw [e1, e2]; exact ⟨R, fun b z => .inl z⟩
  | cons i is ih =>
    intro vs ms ρ σ R m no
    cases m with
    | nil => exact ⟨R, fun b z => .inl z⟩
    | val r m =>
      obtain ⟨R2, o2⟩ := ih (ρ := ρ.set i (.val _)) (σ := σ.set i (some _)) (R.setv r) m fun b d' hm z => no b d' (List.mem_cons_of_mem _ hm) (own_set (fun _ h => by cases h) z)
      exact ⟨R2, fun b z => (o2 b z).imp (own_set (fun _ h => by cases h)) id⟩
    | own nb n1 n2 n3 o _ ap m =>
      have nO := no _ _ List.mem_cons_self
      obtain ⟨R2, o2⟩ := ih (R.setOwn (i := i) nb n1 n2 nO o) m fun b d' hm z => (own_setOwn z).elim (ap b d' hm) fun z => no b d' (List.mem_cons_of_mem _ hm) z
      refine ⟨R2, fun b z => ?_⟩
      rcases o2 b z with z | z
      · rcases own_setOwn z with z | z
        · exact .inr (by rw [z]; exact n3)
        · exact .inl z
      · exact .inr z
theorem MAt.new {H0 : Hp} {vs : List V} {ms : List MD} (m : MAt K ct ua F H0 H vs ms) : ∀ b d', (V.ref b, MD.own d') ∈ vs.zip ms → H0 b = none := by
  induction m with
  | nil => intro b d' h; cases h
  | val _ _ ih =>
    intro b d' h
    rcases List.mem_cons.mp h with z | z
    · cases z
    · exact ih b d' z
  | own _ _ _ n3 _ _ _ _ ih =>
    intro b d' h
    rcases List.mem_cons.mp h with z | z
    · cases z; exact n3
    · exact ih b d' z
theorem MAt.length {H0 : Hp} {vs : List V} {ms : List MD} (m : MAt K ct ua F H0 H vs ms) : vs.length = ms.length := by
  induction m with
  | nil => rfl
  | val _ _ ih => rw [List.length_cons, List.length_cons, ih]
  | own _ _ _ _ _ _ _ _ ih => rw [List.length_cons, List.length_cons, ih]
/-- names = expressions -/
def sSetM (is : List Nat) (f : DM) : DS := fun ρ u => thenS (f ρ u) ρ fun ms u => if ms.length = is.length then .nx (setMs is ms ρ) u else .no
theorem tM_of {is : List Nat} {f : DM} {D : Ends} {Q : List V → Hp → Prop} (h : tS K ct E (sSetM is f) D σ H) (k : ∀ vs H1, vs.length = is.length → D.nx (setVs is vs σ) H1 → Q vs H1) : tM K ct E f σ H Q := by
  obtain ⟨ua, F, ρ, u, O, P, R, o, q⟩ := h
  refine ⟨ua, F, ρ, u, R.toRE, ?_⟩
  unfold sSetM thenS at q
  cases ef : f ρ u with
  | no => rw [ef] at q; exact q
  | exc c gs u1 =>
    rw [ef] at q
    exact fun F' H' dd fs s hu hd h0 hf k r => q F' H' σ dd fs s.s (R.step s hu) (fun b z => .inl (o b z)) hd h0 hf k r
  | ok ms u1 =>
    rw [ef] at q
    dsimp only at q
    split at q
    · rename_i hl
      intro F1 vs H1 s1 hu1 m
      have R1 := R.step s1 hu1
      obtain ⟨R2, o2⟩ := R1.setMs (is := is) m fun b d' hm => not_own_new R.toRE (m.new b d' hm)
      exact k vs H1 (by rw [m.length, hl]) (q F1 H1 _ s1.s R2 fun b z => (o2 b z).imp (o b) id)
    · exact (show False from q).elim
/-- name = a new thing -/
def sSetN (i : Nat) (f : DE) : DS := fun ρ u => thenS (f ρ u) ρ fun d u => if isOb d = true then .no else .nx (ρ.set i (.own d)) u
theorem psd_setN {i : Nat} {x : Str} {e : Expr} {f : DE} {pos pos' : Pos} (hN : X.N.Nodup) (hi : X.N[i]? = some x) (hx : Loc X.env.scope x) (he : PDN X ct E e f) (hs : swapsWith e (some (.Name x pos')) pos.line X.env = pure false := by rfl) (hf : X.fn x = true ∨ X.env.scope.names.lookup x = some .local := by first | exact .inl rfl | exact .inr rfl | assumption) :
    PSD X ct E (.Assign [.Name x pos'] e pos) (sSetN i f) := by
  refine PS.imp (ps_set hN hi hx he hs hf) fun D σ H ⟨ua, F, ρ, u, O, P, R, o, q⟩ => ⟨ua, F, ρ, u, R.toRE, ?_⟩
  unfold sSetN thenS at q
  cases ef : f ρ u with
  | no => rw [ef] at q; exact q
  | exc c gs u1 =>
    rw [ef] at q
    exact fun F' H' dd fs s hu hd h0 hf k r => q F' H' σ dd fs s.s (R.step s hu) (fun b z => .inl (o b z)) hd h0 hf k r
  | ok d u1 =>
    rw [ef] at q
    intro F1 a H1 s1 hu1 n1 n2 n3 o1
    dsimp only at q
    split at q
    · exact (show False from q).elim
    rename_i nb
    exact q F1 H1 _ s1.s ((R.step s1 hu1).setOwn (Bool.eq_false_iff.mpr nb) n1 n2 (not_own_new R.toRE n3) o1) fun b z => (own_setOwn z).elim (fun e => .inr (by rw [e]; exact n3)) fun z => .inl (o b z)
theorem psd_par {i j : Nat} {x y : Str} {a b : Expr} {f : DM} {px py pt : Pos} {kt k2 pt2 pos} (hc : X.calm = true) (hN : X.N.Nodup) (hi : X.N[i]? = some x) (hj : X.N[j]? = some y) (hij : i ≠ j)
    (hx : X.env.scope.names.lookup x = some .local) (hy : X.env.scope.names.lookup y = some .local) (ha : PDM X ct E [a, b] f)
    (hw : swappedStores [.Tuple [.Name x px, .Name y py] kt pt] (.Tuple [a, b] k2 pt2) X.env = pure (some [x, y]))
    (hs : swapsWithSole [.Tuple [.Name x px, .Name y py] kt pt] (.Tuple [a, b] k2 pt2) pos.line X.env = pure false := by rfl) :
    PSD X ct E (.Assign [.Tuple [.Name x px, .Name y py] kt pt] (.Tuple [a, b] k2 pt2) pos) (sSetM [i, j] f) := by
  refine PS.imp (ps_par hc hN hi hj hij hx hy ha hw hs) fun D σ H h => tM_of h fun vs H1 hl q => ?_
  match vs, hl with
  | [v, w], _ => exact ⟨v, w, rfl, q⟩
theorem psd_par3 {i j l : Nat} {x y z : Str} {a b c : Expr} {f : DM} {px py pz pt pos : Pos} {kt k2 pt2} (hc : X.calm = true) (hN : X.N.Nodup) (hi : X.N[i]? = some x) (hj : X.N[j]? = some y) (hl : X.N[l]? = some z) (hij : i ≠ j) (hil : i ≠ l) (hjl : j ≠ l)
    (hx : X.env.scope.names.lookup x = some .local) (hy : X.env.scope.names.lookup y = some .local) (hz : X.env.scope.names.lookup z = some .local) (ha : PDM X ct E [a, b, c] f)
    (hw : swappedStores [.Tuple [.Name x px, .Name y py, .Name z pz] kt pt] (.Tuple [a, b, c] k2 pt2) X.env = pure (some [x, y, z]))
    (hs : swapsWithSole [.Tuple [.Name x px, .Name y py, .Name z pz] kt pt] (.Tuple [a, b, c] k2 pt2) pos.line X.env = pure false := by rfl) :
    PSD X ct E (.Assign [.Tuple [.Name x px, .Name y py, .Name z pz] kt pt] (.Tuple [a, b, c] k2 pt2) pos) (sSetM [i, j, l] f) := by
  refine PS.imp (L2.ps_par3 hc hN hi hj hl hij hil hjl hx hy hz ha hw hs) fun D σ H h => tM_of h fun vs H1 hl q => ?_
  match vs, hl with
  | [v, w, w'], _ => exact ⟨v, w, w', rfl, q⟩
end
end Dl
set_option Elab.async false
set_option linter.all false
set_option maxRecDepth 100000
set_option maxHeartbeats 4000000
/-! Dl9: what is one's own, changed; fields; loops. -/
namespace Dl
open PySem L2 Evl
section
variable {X : Cx} {ct : Nat → Addr} {E : St → XK} {K : PySem.W.Frag} {ua : Addr} {P : Addr → Prop} {F F1 F2 H H1 H2 : Hp} {ρ ρ1 : En} {u u1 : U} {σ σ1 : St} {O : Addr → Prop}
/-- a new thing, given away -/
theorem pd_ofN {e : Expr} {f : DE} (h : PDN X ct E e f) : PD X ct E e f := by
  refine PE.imp h fun σ H Q ⟨ua, F, ρ, u, R, q⟩ => ⟨ua, F, ρ, u, R, ?_⟩
  cases e : f ρ u with
  | no => rw [e] at q; exact q
  | exc c gs u1 => rw [e] at q; exact q
  | ok d u1 =>
    rw [e] at q
    intro F1 a H1 s hu n1 n2 n3 o
    obtain ⟨w, hw⟩ := OwnAt.there o
    have ex : Ex F1 (upd F1 a w) := Ex.new n2
    refine q (upd F1 a w) (.ref a) H1 ⟨s.exF.trans ex, fun b z hb => ?_, ?_, s.kp, fun b z hb => ?_⟩ hu (OwnAt.rep o ex fun z hz => by rw [hw] at hz; cases hz; exact upd_same)
    · by_cases e : b = a
      · rw [e, upd_same] at hb; rw [e, hw]; exact hb
      · rw [upd_ne e] at hb; exact s.exH b z hb
    · rw [upd_ne (Ne.symm n1)]; exact s.nu
    · by_cases e : b = a
      · rw [e]; exact .inr n3
      · rw [upd_ne e] at hb; exact s.fr b z hb
def flat : D → Bool
  | .lst ds => ds.all scal
  | .dct kds => (kds.map (·.2)).all scal
  | .obj _ gs => (gs.map (·.2)).all scal
  | _ => false
theorem OwnAt.flat {a : Addr} : ∀ {d : D}, OwnAt K ct ua F H a d → Dl.flat d = true → OwnAt K ct ua F1 H a d
  | .lst _, ⟨vs, h, r⟩, hf => ⟨vs, h, r.scal hf⟩
  | .dct _, ⟨vs, h, n, q, r⟩, hf => ⟨vs, h, n, q, r.scal hf⟩
  | .obj _ _, ⟨dx, fs, h, q, r⟩, hf => ⟨dx, fs, h, q, r.scal hf⟩
/-- .. made of what is one's own, for a while frozen -/
def lendN (f : DE) : DE := fun ρ u => match f (frz ρ) u with
  | .exc c gs u' => if (gs.map (·.2)).all scal = true then .exc c gs u' else .no
  | .ok d u' => if flat d = true then .ok d u' else .no
  | .no => .no
theorem pdn_lend {e : Expr} {f : DE} (h : PDN X ct E e f) : PDN X ct E e (lendN f) := by
  refine PE.imp h fun σ H Q ⟨ua, F, ρ, u, R, q⟩ => ⟨ua, _, _, u, R.frz, ?_⟩
  unfold lendN at q
  cases e : f (frz ρ) u with
  | ok b u' =>
    rw [e] at q
    dsimp only at q
    split at q
    · rename_i hs
      intro F' a H' s hu n1 n2 n3 o
      obtain ⟨F2, s2, z, _⟩ := R.thaw s
      refine q F2 a H' s2 hu n1 ?_ n3 (o.flat hs)
      cases w : F2 a with
      | none => rfl
      | some w' => rw [z a w' w] at n2; cases n2
    · exact (show False from q).elim
  | exc c gs u' =>
    rw [e] at q
    dsimp only at q
    split at q
    · rename_i hs
      intro F' H' dd fs s hu hd h0 hf k r
      obtain ⟨F2, s2, z, _⟩ := R.thaw s
      refine q F2 H' dd fs s2 hu hd h0 ?_ k (r.scal hs)
      cases w : F2 dd with
      | none => rfl
      | some w' => rw [z dd w' w] at hf; cases hf
    · exact (show False from q).elim
  | no => rw [e] at q; exact (show False from q).elim

/-! ### changed -/
def getO (ρ : En) (i : Nat) : Option D := match ρ[i]? with
  | some (.own d) => some d
  | _ => none
theorem getO_some {i : Nat} {d : D} (h : getO ρ i = some d) : ρ[i]? = some (.own d) := by
  unfold getO at h
  cases e : ρ[i]? with
  | none => rw [e] at h; cases h
  | some s =>
    rw [e] at h
    cases s with
    | no => cases h
    | val x => cases h
    | own x => cases h; rfl
theorem RS.change {i : Nat} {a : Addr} {d d' : D} {o' : HO} (nb : isOb d' = true → isOb d = true) (R : RS K ct P ua F ρ u σ H) (hi : ρ[i]? = some (.own d)) (ha : σ[i]? = some (some (.ref a))) (w : OwnAt K ct ua F (upd H a o') a d') : RS K ct P ua F (ρ.set i (.own d')) u σ (upd H a o') where
  ex := fun b o h => by
    obtain ⟨_, h2, _⟩ := R.own_some ⟨i, d, hi, ha⟩
    rw [upd_ne (ne_of_none h h2)]; exact R.ex b o h
  urn := by
    obtain ⟨h1, _, _⟩ := R.own_some ⟨i, d, hi, ha⟩
    show upd H a o' ua = _
    rw [upd_ne (Ne.symm h1)]; exact R.urn
  fu := R.fu
  len := by rw [List.length_set]; exact R.len
  vals := fun j d' e => by
    by_cases h : i = j
    · subst h
      have hl : i < ρ.length := by
        have := (List.getElem?_eq_some_iff.mp e).1
        simpa using this
      rw [List.getElem?_set_self hl] at e
      cases e
    · rw [List.getElem?_set_ne h] at e
      exact R.vals j d' e
  owns := fun j dj e => by
    by_cases h : i = j
    · subst h
      have hl : i < ρ.length := by
        have := (List.getElem?_eq_some_iff.mp e).1
        simpa using this
      rw [List.getElem?_set_self hl] at e
      cases e
      obtain ⟨h1, h2, _⟩ := R.own_some ⟨i, d, hi, ha⟩
      exact ⟨a, ha, h1, h2, w⟩
    · rw [List.getElem?_set_ne h] at e
      obtain ⟨b, h1, h2, h3, h4⟩ := R.owns j dj e
      refine ⟨b, h1, h2, h3, OwnAt.mono (Ex.refl F) (fun o q => ?_) h4⟩
      rw [upd_ne (fun z => h (R.sep i j d dj b hi e (by rw [z]; exact ha) h1))]; exact q
  obj := fun j c gs b h1 h2 => by
    by_cases e : i = j
    · subst e
      have hl : i < ρ.length := by
        have := (List.getElem?_eq_some_iff.mp h1).1
        simpa using this
      rw [List.getElem?_set_self hl] at h1; cases h1
      cases d <;> first | (cases (nb rfl); done) | skip
      exact R.obj i _ _ b hi h2
    · rw [List.getElem?_set_ne e] at h1
      exact R.obj j c gs b h1 h2
  sep := by
    intro j k d1 d2 b h1 h2 h3 h4
    have back : ∀ (j : Nat) (d1 : D), (ρ.set i (.own d'))[j]? = some (.own d1) → ∃ d0, ρ[j]? = some (.own d0) := fun j d1 h1 => by
      by_cases h : i = j
      · subst h; exact ⟨d, hi⟩
      · rw [List.getElem?_set_ne h] at h1; exact ⟨d1, h1⟩
    obtain ⟨e1, g1⟩ := back j d1 h1
    obtain ⟨e2, g2⟩ := back k d2 h2
    exact R.sep j k e1 e2 b g1 g2 h3 h4
theorem own_change {i : Nat} {d d' : D} {b : Addr} (hi : ρ[i]? = some (.own d)) (h : Own (ρ.set i (.own d')) σ b) : Own ρ σ b := by
  obtain ⟨j, d1, h1, h2⟩ := h
  by_cases e : i = j
  · subst e; exact ⟨i, d, hi, h2⟩
  · rw [List.getElem?_set_ne e] at h1; exact ⟨j, d1, h1, h2⟩
theorem stS_change {a : Addr} {o' : HO} (b : Bs ua F u H) (h1 : a ≠ ua) (h2 : F a = none) (ho : O a) : StS ua O F H F (upd H a o') where
  exF := Ex.refl F
  exH := fun c o h => by rw [upd_ne (ne_of_none h h2)]; exact b.ex c o h
  nu := b.fu
  kp := fun c o _ n h => by
    rw [upd_ne (fun e => n (by rw [e]; exact ho))]; exact h
  fr := fun _ _ h => .inl h
  th := fun c o _ h => by
    by_cases e : c = a
    · rw [e]; exact ⟨o', upd_same⟩
    · exact ⟨o, by rw [upd_ne e]; exact h⟩
/-- the end of a change -/
theorem end_change {i : Nat} {a : Addr} {d d' : D} {o' : HO} {D : Ends} (nb : isOb d' = true → isOb d = true) (R : RS K ct P ua F ρ u σ H) (o : ∀ b, Own ρ σ b → O b) (hi : ρ[i]? = some (.own d)) (ha : σ[i]? = some (some (.ref a))) (w : OwnAt K ct ua F (upd H a o') a d')
    (q : outS K ct P ua F H O E (.nx (ρ.set i (.own d')) u) D) : D.nx σ (upd H a o') := by
  obtain ⟨h1, h2, _⟩ := R.own_some ⟨i, d, hi, ha⟩
  exact q F (upd H a o') σ (stS_change R.toBs h1 h2 (o a ⟨i, d, hi, ha⟩)) (R.change nb hi ha w) fun b z => .inl (o b (own_change hi z))

/-! a list's methods -/
def ROm (K : PySem.W.Frag) (ct : Nat → Addr) (r : V → List V → Hp → VK → Prop) (o : List D → List D → Option (D × List D)) : Prop := ∀ (ua : Addr) (F H : Hp) (u : U) (a : Addr) (vs ws : List V) (ds xs ds' : List D) (x : D) (Q : VK), Bs ua F u H → H a = some (.lst vs) →
  Reps K ct ua F vs ds → Reps K ct ua F ws xs → o ds xs = some (x, ds') → (∀ v vs', Rep K ct ua F v x → Reps K ct ua F vs' ds' → Q v (upd H a (.lst vs'))) → r (.ref a) ws H Q
def oApp : List D → List D → Option (D × List D)
  | ds, [d] => chk (small ds.length) (.non, ds ++ [d])
  | _, _ => none
theorem rom_app : ROm K ct rAppend oApp := by
  intro ua F H u a vs ws ds xs ds' x Q b ha r1 r2 ho q
  match xs, ho with
  | [d], ho =>
    obtain ⟨v, rfl, rv⟩ := reps1 r2
    obtain ⟨hs, e⟩ := chk_some (show chk (small ds.length) (D.non, ds ++ [d]) = some (x, ds') from ho)
    cases e
    exact ⟨a, vs, v, rfl, rfl, ha, by rw [r1.length]; exact Nat.lt_of_le_of_lt (of_decide_eq_true hs) (by decide), q _ _ .non (r1.append (.cons rv .nil))⟩
def oExt : List D → List D → Option (D × List D)
  | ds, [.lst es] => chk (small (ds.length + es.length)) (.non, ds ++ es)
  | _, _ => none
theorem rom_ext : ROm K ct rExtend oExt := by
  intro ua F H u a vs ws ds xs ds' x Q b ha r1 r2 ho q
  match xs, ho with
  | [.lst es], ho =>
    obtain ⟨v, rfl, rv⟩ := reps1 r2
    obtain ⟨hs, e⟩ := chk_some (show chk (small (ds.length + es.length)) (D.non, ds ++ es) = some (x, ds') from ho)
    cases e
    cases rv with | lst h1 h2 =>
    exact ⟨a, _, vs, _, rfl, rfl, ha, b.ex _ _ h1, by rw [r1.length, h2.length]; exact small_line hs, q _ _ .non (r1.append h2)⟩
def oPop : List D → List D → Option (D × List D)
  | ds, [] => (ds[ds.length - 1]?).map fun x => (x, ds.dropLast)
  | _, _ => none
theorem Reps.dropLast : ∀ {vs : List V} {ds : List D}, Reps K ct ua F vs ds → Reps K ct ua F vs.dropLast ds.dropLast
  | _, _, .nil => .nil
  | _, _, .cons _ .nil => .nil
  | _, _, .cons r (.cons r' t) => .cons r (Reps.dropLast (.cons r' t))
theorem Reps.eraseIdx : ∀ {vs : List V} {ds : List D} (k : Nat), Reps K ct ua F vs ds → Reps K ct ua F (vs.eraseIdx k) (ds.eraseIdx k)
  | _, _, _, .nil => .nil
  | _, _, 0, .cons _ t => t
  | _, _, k + 1, .cons r t => .cons r (Reps.eraseIdx k t)
theorem rom_pop : ROm K ct rPop oPop := by
  intro ua F H u a vs ws ds xs ds' x Q b ha r1 r2 ho q
  match xs, ho with
  | [], ho =>
    cases r2
    have ho : (ds[ds.length - 1]?).map (fun x => (x, ds.dropLast)) = some (x, ds') := ho
    cases e : ds[ds.length - 1]? with
    | none => rw [e] at ho; cases ho
    | some y =>
      rw [e] at ho; cases ho
      obtain ⟨v, h1, h2⟩ := r1.get' e
      exact ⟨a, vs, v, rfl, rfl, ha, by rw [r1.length]; exact h1, q _ _ h2 r1.dropLast⟩
def oPopAt : List D → List D → Option (D × List D)
  | ds, [.int i] => if 0 ≤ i ∧ i < 100000 then (ds[i.toNat]?).map fun x => (x, ds.eraseIdx i.toNat) else none
  | _, _ => none
theorem rom_popAt : ROm K ct rPopAt oPopAt := by
  intro ua F H u a vs ws ds xs ds' x Q b ha r1 r2 ho q
  match xs, ho with
  | [.int i], ho =>
    obtain ⟨v, rfl, rv⟩ := reps1 r2
    cases rv
    have ho : (if 0 ≤ i ∧ i < 100000 then (ds[i.toNat]?).map (fun x => (x, ds.eraseIdx i.toNat)) else none) = some (x, ds') := ho
    split at ho
    · rename_i hi
      cases e : ds[i.toNat]? with
      | none => rw [e] at ho; cases ho
      | some y =>
        rw [e] at ho; cases ho
        obtain ⟨v, h1, h2⟩ := r1.get' e
        have hl : i.toNat < vs.length := (List.getElem?_eq_some_iff.mp h1).1
        refine ⟨a, vs, i, i.toNat, v, rfl, rfl, ha, by omega, by omega, ?_, h1, q _ _ h2 (r1.eraseIdx _)⟩
        unfold seqIndex?
        have h1 : ¬ i < 0 := by omega
        simp only [h1, if_false]
        have h2 : i.toNat < vs.length := hl
        simp [h2]
        omega
    · cases ho
/-- xs.m(e, ..), dropped -/
def sOm (i : Nat) (o : List D → List D → Option (D × List D)) (g : DA) : DS := fun ρ u => match getO ρ i with
  | some (.lst ds) => thenS (g ρ u) ρ fun xs u => match o ds xs with
    | some (_, ds') => .nx (ρ.set i (.own (.lst ds'))) u
    | none => .no
  | _ => .no
theorem tBM_om {r : V → List V → Hp → VK → Prop} {o : List D → List D → Option (D × List D)} {g : DA} {i : Nat} (ho : ROm K ct r o) : ∀ D σ H, tS K ct E (sOm i o g) D σ H → tDrop (tBM K "list" r (tVar i) (tG K ct (rA K ct) E g)) D σ H := by
  rintro D σ H ⟨ua, F, ρ, u, O, P, R, ow, q⟩
  unfold sOm at q
  cases e : getO ρ i with
  | none => rw [e] at q; exact (show False from q).elim
  | some d =>
    rw [e] at q
    cases d <;> first | exact (show False from q).elim | skip
    rename_i ds
    have hi := getO_some e
    obtain ⟨a, ha, n1, n2, vs, hv, rv⟩ := R.owns i _ hi
    refine ⟨.ref a, ha, .inl ⟨rfl, vs, .inl (.inl hv)⟩, ?_⟩
    refine tS_bind R ow q fun F1 ws H1 xs u1 s R1 r q1 => ?_
    cases eo : o ds xs with
    | none => rw [eo] at q1; exact (show False from q1).elim
    | some p =>
      obtain ⟨x, ds'⟩ := p
      rw [eo] at q1
      exact ho ua F1 H1 u1 a vs ws ds xs ds' x _ R1.toBs (s.kp a _ n1 hv) (rv.mono s.exF) r eo fun v vs' rx rs => end_change (d' := .lst ds') (fun h => by cases h) R1 ow hi ha ⟨vs', upd_same, rs⟩ q1
theorem psd_om {i : Nat} {name : Str} {id : String} {e : Expr} {es : List Expr} {x : Str} {apos cpos pos p : Pos} {r : V → List V → Hp → VK → Prop} {o : List D → List D → Option (D × List D)} {g : DA} (pv : PE X (.Name x p) (tVar i)) (slot : PySem.Slot "list" name id) (hty : typeOf (.builtin id) = pure (.type "method_descriptor")) (hm : MtR X id r) (ho : ROm X.K ct r o) (ha : PDA X ct E (e :: es) g)
    (hbase : attributeBase (.Name x p) name X.env (eval (.Name x p) X.env) = eval (.Name x p) X.env := by rfl)
    (hfew : ((backTo cpos (starEach (e :: es) X.env)).all (fun x => !x.1) && (backToKw cpos (keywordEach [] X.env)).all (fun x => x.1.isSome)
      && decide ((e :: es).length + ([] : List Keyword).length + (if ([] : List Keyword).isEmpty then 0 else 1) < 30)) = true := by rfl)
    (hline : (apos.endLine == cpos.line) = true := by rfl) (hs : starEach (e :: es) X.env = (false, eval e X.env) :: starEach es X.env := by rfl) (hplain : (backTo cpos (starEach es X.env)).any (·.1) = false := by rfl)
    (hsw : swapsWith (.Call (.Attribute (.Name x p) name apos) (e :: es) [] cpos) none pos.line X.env = pure false := by rfl) :
    PSD X ct E (.Expr (.Call (.Attribute (.Name x p) name apos) (e :: es) [] cpos) pos) (sOm i o g) :=
  PS.imp (ps_expr (pe_bm PySem.F.plainAttrs_list slot hty hm pv ha hbase hfew hline hs hplain) hsw) (tBM_om ho)
end
end Dl
set_option Elab.async false
set_option linter.all false
set_option maxRecDepth 100000
set_option maxHeartbeats 4000000
/-! Dl10: loops; fields; things put into lists and dicts of one's own. -/
namespace Dl
open PySem L2 Evl
section
variable {X : Cx} {ct : Nat → Addr} {E : St → XK} {K : PySem.W.Frag} {ua : Addr} {P : Addr → Prop} {F F1 F2 H H1 H2 : Hp} {ρ ρ1 ρ' : En} {u u1 : U} {σ σ1 : St} {O : Addr → Prop}
theorem RS.setAll : ∀ {is : List Nat} {vs : List V} {ds : List D} {ρ : En} {σ : St}, RS K ct P ua F ρ u σ H → Reps K ct ua F vs ds →
    RS K ct P ua F (Dl.setAll is ds ρ) u (setVs is vs σ) H ∧ ∀ b, Own (Dl.setAll is ds ρ) (setVs is vs σ) b → Own ρ σ b := by
  intro is
  induction is with
  | nil =>
    intro vs ds ρ σ R r
    have e1 : Dl.setAll [] ds ρ = ρ := by cases ds <;> rfl
    have e2 : setVs [] vs σ = σ := by cases vs <;> rfl
    rw [e1, e2]; exact ⟨R, fun _ z => z⟩
  | cons i is ih =>
    intro vs ds ρ σ R r
    cases r with
    | nil => exact ⟨R, fun _ z => z⟩
    | cons r t =>
      obtain ⟨R2, o2⟩ := ih (ρ := ρ.set i (.val _)) (σ := σ.set i (some _)) (R.setv r) t
      exact ⟨R2, fun b z => own_set (fun _ h => by cases h) (o2 b z)⟩
theorem tgS_run {tg : Tg} {v : V} {x : D} {Q : St → Hp → Prop} (hb : bindT tg x ρ = some ρ') (R : RS K ct P ua F ρ u σ H) (r : Rep K ct ua F v x) (q : ∀ σ', RS K ct P ua F ρ' u σ' H → (∀ b, Own ρ' σ' b → Own ρ σ b) → Q σ' H) : tgG K tg v σ H Q := by
  cases tg with
  | nm i =>
    cases hb
    exact q _ (R.setv r) fun b z => own_set (fun _ h => by cases h) z
  | tp is =>
    cases r <;> first | (cases hb; done) | skip
    · rename_i a vs ds h1 h2
      obtain ⟨hl, e⟩ := chk_some hb
      subst e
      have hl := of_decide_eq_true hl
      have hl2 := h2.length
      obtain ⟨R2, o2⟩ := R.setAll (is := is) h2
      exact .inr ⟨a, vs, rfl, sq_of (R.ex _ _ h1), by omega, gNames_run (by omega) (q _ R2 o2)⟩
    · rename_i a vs ds h1 h2
      obtain ⟨hl, e⟩ := chk_some hb
      subst e
      have hl := of_decide_eq_true hl
      have hl2 := h2.length
      obtain ⟨R2, o2⟩ := R.setAll (is := is) h2
      exact .inl ⟨a, vs, rfl, ex_t R.ex h1, by omega, gNames_run (by omega) (q _ R2 o2)⟩
/-- a, b = e -/
def sSetT (tg : Tg) (f : DE) : DS := fun ρ u => thenS (f ρ u) ρ fun d u => match bindT tg d ρ with
  | some ρ' => .nx ρ' u
  | none => .no
theorem psd_setT {t e : Expr} {tg : Tg} {f : DE} {pos : Pos} (he : PD X ct E e f) (hg : PG X t (tgG X.K tg)) (hs : swapsWithSole [t] e pos.line X.env = pure false := by rfl) (hw : swappedStores [t] e X.env = pure none := by rfl)
    (h1 : (assignEach [t] X.env).map (·.2) = [assign t X.env] := by rfl) : PSD X ct E (.Assign [t] e pos) (sSetT tg f) := by
  refine PS.imp (ps_asg he hg hs hw h1) fun D σ H ⟨ua, F, ρ, u, O, P, R, o, q⟩ => ?_
  refine tS_bind R o q fun F1 v H1 x u1 s R1 r q1 => ?_
  cases hb : bindT tg x ρ with
  | none => rw [hb] at q1; exact (show False from q1).elim
  | some ρ' =>
    rw [hb] at q1
    exact tgS_run hb R1 r fun σ' R2 o2 => q1 F1 H1 σ' (StS.refl R1.toBs) R2 fun b z => .inl (o b (o2 b z))

/-! ### for -/
def forGo (tg : Tg) (body : DS) : List D → DS
  | [], ρ, u => .nx ρ u
  | x :: xs, ρ, u => match bindT tg x ρ with
    | none => .no
    | some ρ1 => match body ρ1 u with
      | .nx ρ2 u2 => forGo tg body xs ρ2 u2
      | .ct ρ2 u2 => forGo tg body xs ρ2 u2
      | .bk ρ2 u2 => .nx ρ2 u2
      | r => r
def sFor (fi : DI) (tg : Tg) (body : DS) : DS := fun ρ u => thenS (fi ρ u) ρ fun xs u => forGo tg body xs ρ u
theorem psd_for {iter t : Expr} {body : List Stmt} {fi : DI} {tg : Tg} {f : DS} {pos : Pos} (hp : PassesOwn (model X.prog X.w) X.A X.env X.xe) (hc : X.calm = true) (hi : PDI X ct E t iter fi) (hg : PG X t (tgG X.K tg)) (hb : PSDs X ct E body f)
    (hs : ∀ x, foldedSetIterable iter X.env x = pure x := by intro _; rfl) : PSD X ct E (.For t iter body [] pos) (sFor fi tg f) := by
  refine PS.imp (ps_for hp hc hi hg hb hs) fun D σ H ⟨ua, F, ρ, u, O, P, R, o, q⟩ => ?_
  refine tS_bind R o q fun F1 J H1 xs u1 s1 R1 W q1 => ?_
  refine ⟨fun i m σ' H' => m = xs.length - i ∧ i ≤ xs.length ∧ ∃ F' ρ' u' O', RS X.K ct P ua F' ρ' u' σ' H' ∧ (∀ b, Own ρ' σ' b → O' b) ∧ Ex F1 F' ∧ outS X.K ct P ua F' H' O' E (forGo tg f (xs.drop i) ρ' u') D,
    ⟨xs.length, rfl, Nat.zero_le _, F1, ρ, u1, O, R1, o, Ex.refl F1, q1⟩, ?_⟩
  rintro i m σ' H' ⟨rfl, hi, F', ρ', u', O', R', o', ex, q2⟩
  by_cases hlt : i < xs.length
  · refine .inr ⟨W.go i F' H' hlt ex R'.ex, fun σ' H' => ∃ F' ρ' u' O', RS X.K ct P ua F' ρ' u' σ' H' ∧ (∀ b, Own ρ' σ' b → O' b) ∧ Ex F1 F' ∧ outS X.K ct P ua F' H' O' E (forGo tg f (xs.drop (i + 1)) ρ' u') D,
      fun σ'' H'' h => ⟨xs.length - (i + 1), by omega, rfl, hlt, h⟩, fun x H2 y => ?_⟩
    rw [drop_cons hlt] at q2
    unfold forGo at q2
    cases hb : bindT tg xs[i] ρ' with
    | none => rw [hb] at q2; exact (show False from q2).elim
    | some ρ1 =>
      rw [hb] at q2
      dsimp only at q2
      obtain ⟨F2, s2, hu2, r2⟩ := W.yld i xs[i] x F' u' H' H2 (List.getElem?_eq_getElem hlt) ex R'.toBs y
      have R2 := R'.step s2 hu2
      refine tgS_run hb R2 r2 fun σ2 R3 o3 => ?_
      refine ⟨ua, F2, ρ1, u', O', P, R3, fun b z => o' b (o3 b z), ?_⟩
      have q3 := q2.shift R'.toBs s2.s hu2 (O1 := O') fun b z => .inl z
      cases eb : f ρ1 u' with
      | nx ρ2 u2 =>
        rw [eb] at q3
        exact fun F3 H3 σ3 s3 R4 o4 => ⟨F3, ρ2, u2, fun b => O' b ∨ H2 b = none, R4, o4, (ex.trans s2.exF).trans s3.exF, q3.shift R3.toBs s3 R4.urn fun b z => z⟩
      | ct ρ2 u2 =>
        rw [eb] at q3
        exact fun F3 H3 σ3 s3 R4 o4 => ⟨F3, ρ2, u2, fun b => O' b ∨ H2 b = none, R4, o4, (ex.trans s2.exF).trans s3.exF, q3.shift R3.toBs s3 R4.urn fun b z => z⟩
      | bk ρ2 u2 => rw [eb] at q3; exact q3
      | rt d u2 => rw [eb] at q3; exact q3
      | ex c gs ρ2 u2 => rw [eb] at q3; exact q3
      | no => rw [eb] at q3; exact q3
  · have e1 : i = xs.length := by omega
    subst e1
    refine .inl ⟨W.stop F' H' ex R'.ex, ?_⟩
    rw [List.drop_length] at q2
    exact own_refl R' o' q2

/-! ### while -/
def whGo (t : DB) (body : DS) : Nat → DS
  | 0, _, _ => .no
  | n + 1, ρ, u => thenS (lendB t ρ u) ρ fun b u => if b = true then match body ρ u with
      | .nx ρ2 u2 => whGo t body n ρ2 u2
      | .ct ρ2 u2 => whGo t body n ρ2 u2
      | .bk ρ2 u2 => .nx ρ2 u2
      | r => r
    else .nx ρ u
def sWh (n : Nat) (t : DB) (body : DS) : DS := fun ρ u => whGo t body n ρ u
theorem psd_while {c : Expr} {body : List Stmt} {t : DB} {f : DS} {pos : Pos} (n : Nat) (hp : PassesOwn (model X.prog X.w) X.A X.env X.xe) (hc : PDB X ct E c t) (hb : PSDs X ct E body f) : PSD X ct E (.While c body [] pos) (sWh n t f) := by
  refine PS.imp (ps_while hp (pdb_lend hc) hb) fun D σ H ⟨ua, F, ρ, u, O, P, R, o, q⟩ => ?_
  refine ⟨fun m σ' H' => ∃ F' ρ' u' O', RS X.K ct P ua F' ρ' u' σ' H' ∧ (∀ b, Own ρ' σ' b → O' b) ∧ outS X.K ct P ua F' H' O' E (whGo t f m ρ' u') D, ⟨n, F, ρ, u, O, R, o, q⟩, ?_⟩
  rintro m σ' H' ⟨F', ρ', u', O', R', o', q2⟩
  cases m with
  | zero => exact (show False from q2).elim
  | succ m =>
    unfold whGo at q2
    refine tS_bind R' o' q2 fun F2 v H2 b u2 s2 R2 rb q3 => ?_
    obtain rfl : v = b := rb
    cases v with
    | false => exact own_refl R2 o' q3
    | true =>
      rw [if_pos rfl] at q3 ⊢
      refine ⟨fun σ' H' => ∃ F' ρ' u' O', RS X.K ct P ua F' ρ' u' σ' H' ∧ (∀ b, Own ρ' σ' b → O' b) ∧ outS X.K ct P ua F' H' O' E (whGo t f m ρ' u') D, fun σ'' H'' h => ⟨m, Nat.lt_succ_self m, h⟩, ⟨ua, F2, ρ', u2, O', P, R2, o', ?_⟩⟩
      cases eb : f ρ' u2 with
      | nx ρ2 u3 =>
        rw [eb] at q3
        exact fun F3 H3 σ3 s3 R4 o4 => ⟨F3, ρ2, u3, fun b => O' b ∨ H2 b = none, R4, o4, q3.shift R2.toBs s3 R4.urn fun b z => z⟩
      | ct ρ2 u3 =>
        rw [eb] at q3
        exact fun F3 H3 σ3 s3 R4 o4 => ⟨F3, ρ2, u3, fun b => O' b ∨ H2 b = none, R4, o4, q3.shift R2.toBs s3 R4.urn fun b z => z⟩
      | bk ρ2 u3 => rw [eb] at q3; exact q3
      | rt d u3 => rw [eb] at q3; exact q3
      | ex c gs ρ2 u3 => rw [eb] at q3; exact q3
      | no => rw [eb] at q3; exact q3

/-! ### i += e -/
def sAug (i : Nat) (o : D → D → Option D) (f : DE) : DS := fun ρ u => match getV ρ i with
  | some x => thenS (f ρ u) ρ fun y u => match o x y with
    | some z => .nx (ρ.set i (.val z)) u
    | none => .no
  | none => .no
theorem psd_aug {i : Nat} {x : Str} {e : Expr} {f : DE} {op : Operator} {ti : TIp} {o : D → D → Option D} {pos pos' : Pos} (hN : X.N.Nodup) (hi : X.N[i]? = some x) (hx : Loc X.env.scope x) (he : PD X ct E e f) (hop : PIp X op ti) (ho : ROp X.K ct ti o) (hf : X.fn x = true ∨ X.env.scope.names.lookup x = some .local := by first | exact .inl rfl | exact .inr rfl | assumption) :
    PSD X ct E (.AugAssign (.Name x pos') op e pos) (sAug i o f) := by
  refine PS.imp (ps_aug hN hi hx he hop hf) fun D σ H ⟨ua, F, ρ, u, O, P, R, ow, q⟩ => ?_
  unfold sAug at q
  cases hg : getV ρ i with
  | none => rw [hg] at q; exact (show False from q).elim
  | some x =>
    rw [hg] at q
    obtain ⟨v, h1, h2⟩ := R.vals i x (getV_some hg)
    refine ⟨v, h1, ?_⟩
    refine tS_bind R ow q fun F1 w H1 y u1 s R1 r q1 => ?_
    cases eo : o x y with
    | none => rw [eo] at q1; exact (show False from q1).elim
    | some z =>
      rw [eo] at q1
      refine ho ua F1 H1 u1 (fun _ _ _ => False) v w x y _ R1.toBs (h2.mono s.exF) r ?_
      rw [eo]
      exact fun F2 zv H2 s2 hu rz => q1 F2 H2 _ s2.s ((R1.step s2 hu).setv rz) fun b z => .inl (ow b (own_set (fun _ h => by cases h) z))
theorem rop_ipadd : ROp K ct (ipI fun i j => i + j) (fun x y => match x, y with | .int i, .int j => some (.int (i + j)) | _, _ => none) := by
  intro ua F H u E v w x y Q b r1 r2 q
  refine out_opt q fun d hd q2 => ?_
  cases x <;> cases y <;> simp at hd
  cases r1; cases r2
  subst hd
  exact ⟨_, _, rfl, rfl, out.ret b q2 (.int _)⟩
theorem rop_ipsub : ROp K ct (ipI fun i j => i - j) (fun x y => match x, y with | .int i, .int j => some (.int (i - j)) | _, _ => none) := by
  intro ua F H u E v w x y Q b r1 r2 q
  refine out_opt q fun d hd q2 => ?_
  cases x <;> cases y <;> simp at hd
  cases r1; cases r2
  subst hd
  exact ⟨_, _, rfl, rfl, out.ret b q2 (.int _)⟩

/-! ### fields -/
/-- field f of the classes cs -/
def FldOk (K : PySem.W.Frag) (ct : Nat → Addr) (f : Str) (cs : List Nat) : Prop := ∀ c ∈ cs, Cls K (ct c) ∧ NoAttr K (ct c) f
def getF (f : Str) (cs : List Nat) : D → Option D
  | .obj c gs => if c ∈ cs then gs.lookup f else none
  | _ => none
def dFld (f : Str) (cs : List Nat) (g : DE) : DE := fun ρ => bnd (g ρ) fun x => opt (getF f cs x)
theorem fld_look : ∀ {fs : List (Str × V)} {gs : List (Str × D)} {f : Str} {d : D}, gs.map (·.1) = fs.map (·.1) → Reps K ct ua F (fs.map (·.2)) (gs.map (·.2)) → gs.lookup f = some d → ∃ v, fs.lookup f = some v ∧ Rep K ct ua F v d
  | [], [], _, _, _, _, h => by cases h
  | [], _ :: _, _, _, h, _, _ => by cases h
  | _ :: _, [], _, _, h, _, _ => by cases h
  | (a, v) :: fs, (b, d') :: gs, f, d, hk, hr, h => by
    have hb : b = a := (List.cons.inj hk).1
    subst hb
    cases hr with
    | cons r rs =>
      rw [List.lookup_cons] at h ⊢
      cases e : f == b with
      | true =>
        rw [e] at h
        cases h
        exact ⟨v, rfl, r⟩
      | false =>
        rw [e] at h
        exact fld_look (List.cons.inj hk).2 rs h
theorem getF_some {f : Str} {cs : List Nat} {x d : D} (h : getF f cs x = some d) : ∃ c gs, x = .obj c gs ∧ c ∈ cs ∧ gs.lookup f = some d := by
  cases x <;> first | (cases h; done) | skip
  unfold getF at h
  dsimp only at h
  split at h
  · rename_i hc; exact ⟨_, _, rfl, hc, h⟩
  · cases h
theorem pd_fld {e : Expr} {f : Str} {cs : List Nat} {g : DE} {pos : Pos} (hk : FldOk X.K ct f cs) (he : PD X ct E e g) (hb : attributeBase e f X.env (eval e X.env) = eval e X.env := by rfl) : PD X ct E (.Attribute e f pos) (dFld f cs g) := by
  refine PE.imp (pe_fld he hb) fun σ H Q ⟨ua, F, ρ, u, R, q⟩ => ?_
  refine tG_bind R q fun F1 v H1 x u1 s1 R1 r1 q1 => ?_
  refine out_opt q1 fun d hd q2 => ?_
  obtain ⟨c, gs, rfl, hc, hl⟩ := getF_some hd
  cases r1 with | obj h1 h2 h3 =>
  obtain ⟨w, hw, rw'⟩ := fld_look h2 h3 hl
  obtain ⟨k1, k2⟩ := hk c hc
  exact ⟨_, ct c, _, _, w, rfl, R1.ex _ _ h1, k1, k2, hw, out.ret R1.toBs q2 rw'⟩
/-- .. of what is one's own -/
def dFldO (f : Str) (cs : List Nat) (i : Nat) : DE := fun ρ => opt ((getO ρ i).bind (getF f cs))
theorem pd_fldO {i : Nat} {x f : Str} {cs : List Nat} {p pos : Pos} (hk : FldOk X.K ct f cs) (he : PE X (.Name x p) (tVar i)) (hb : attributeBase (.Name x p) f X.env (eval (.Name x p) X.env) = eval (.Name x p) X.env := by rfl) : PD X ct E (.Attribute (.Name x p) f pos) (dFldO f cs i) := by
  refine PE.imp (pe_fld he hb) fun σ H Q ⟨ua, F, ρ, u, R, q⟩ => ?_
  refine out_opt q fun d hd q2 => ?_
  cases e : getO ρ i with
  | none => rw [e] at hd; cases hd
  | some o =>
    rw [e] at hd
    have hd : getF f cs o = some d := hd
    obtain ⟨a, h1, n1, n2, h4⟩ := R.owns i o (getO_some e)
    obtain ⟨c, gs, rfl, hc, hl⟩ := getF_some hd
    obtain ⟨dx, fs, k1, k2, k3⟩ := h4
    obtain ⟨w, hw, rw'⟩ := fld_look k2 k3 hl
    obtain ⟨m1, m2⟩ := hk c hc
    exact ⟨_, h1, a, ct c, dx, fs, w, rfl, k1, m1, m2, hw, out.ret R.toBs q2 rw'⟩
def putFD (f : Str) (x : D) : List (Str × D) → List (Str × D)
  | [] => [(f, x)]
  | (g, y) :: r => if g = f then (g, x) :: r else (g, y) :: putFD f x r
theorem putF_keys {f : Str} {v : V} {d : D} : ∀ {fs : List (Str × V)} {gs : List (Str × D)}, gs.map (·.1) = fs.map (·.1) → (putFD f d gs).map (·.1) = (putF f v fs).map (·.1)
  | [], [], _ => rfl
  | [], _ :: _, h => by cases h
  | _ :: _, [], h => by cases h
  | (a, v') :: fs, (b, d') :: gs, hk => by
    have hb : b = a := (List.cons.inj hk).1
    subst hb
    unfold putFD putF
    by_cases e : b = f
    · rw [if_pos e, if_pos e]; exact hk
    · rw [if_neg e, if_neg e]
      show b :: (putFD f d gs).map (·.1) = b :: (putF f v fs).map (·.1)
      rw [putF_keys (List.cons.inj hk).2]
theorem putF_reps {f : Str} {v : V} {d : D} (r : Rep K ct ua F v d) : ∀ {fs : List (Str × V)} {gs : List (Str × D)}, gs.map (·.1) = fs.map (·.1) → Reps K ct ua F (fs.map (·.2)) (gs.map (·.2)) → Reps K ct ua F ((putF f v fs).map (·.2)) ((putFD f d gs).map (·.2))
  | [], [], _, _ => .cons r .nil
  | [], _ :: _, h, _ => by cases h
  | _ :: _, [], h, _ => by cases h
  | (a, v') :: fs, (b, d') :: gs, hk, hr => by
    have hb : b = a := (List.cons.inj hk).1
    subst hb
    cases hr with
    | cons r1 rs =>
      unfold putFD putF
      by_cases e : b = f
      · rw [if_pos e, if_pos e]; exact .cons r rs
      · rw [if_neg e, if_neg e]; exact .cons r1 (putF_reps r (List.cons.inj hk).2 rs)
/-- self.f = e -/
def sFldO (f : Str) (cs : List Nat) (i : Nat) (g : DE) : DS := fun ρ u => thenS (g ρ u) ρ fun d u => match getO ρ i with
  | some (.obj c gs) => if c ∈ cs ∧ gs.length < 1000 then .nx (ρ.set i (.own (.obj c (putFD f d gs)))) u else .no
  | _ => .no
theorem psd_fldO {i : Nat} {x f : Str} {cs : List Nat} {e : Expr} {g : DE} {p pos pos' : Pos} (hk : FldOk X.K ct f cs) (hx : PE X (.Name x p) (tVar i)) (he : PD X ct E e g) (hs : swapsWith e (some (.Attribute (.Name x p) f pos')) pos.line X.env = pure false := by rfl) : PSD X ct E (.Assign [.Attribute (.Name x p) f pos'] e pos) (sFldO f cs i g) := by
  refine PS.imp (ps_fld hx he hs) fun D σ H ⟨ua, F, ρ, u, O, P, R, ow, q⟩ => ?_
  refine tS_bind R ow q fun F1 v H1 d u1 s R1 r q1 => ?_
  cases e : getO ρ i with
  | none => rw [e] at q1; exact (show False from q1).elim
  | some o =>
    rw [e] at q1
    obtain ⟨a, h1, n1, n2, h4⟩ := R1.owns i o (getO_some e)
    cases o <;> first | exact (show False from q1).elim | skip
    rename_i c gs
    dsimp only at q1
    split at q1
    · rename_i hc
      obtain ⟨dx, fs, k1, k2, k3⟩ := h4
      obtain ⟨m1, m2⟩ := hk c hc.1
      have hl : fs.length = gs.length := by have := congrArg List.length k2; simpa using this.symm
      refine ⟨.ref a, h1, a, ct c, dx, fs, rfl, k1, m1, m2, by rw [hl]; exact hc.2, ?_⟩
      exact end_change (d' := .obj c (putFD f d gs)) (fun _ => rfl) R1 ow (getO_some e) h1 ⟨dx, _, upd_same, putF_keys k2, putF_reps r k2 k3⟩ q1
    · exact (show False from q1).elim
/-! d[k] = e, xs[i] = e -/
def sPut (i : Nat) (fi fv : DE) : DS := fun ρ u => thenS (fv ρ u) ρ fun d u => match getO ρ i with
  | some (.dct kds) => thenS (fi ρ u) ρ fun k u => match keyD k with
    | some k => if small kds.length = true then .nx (ρ.set i (.own (.dct (putD kds k d)))) u else .no
    | none => .no
  | _ => .no
theorem psd_put {i : Nat} {x : Str} {e ix : Expr} {f g : DE} {p pos pos' : Pos} (hu : X.A.units + 1 < cLine) (hx : PE X (.Name x p) (tVar i)) (hi : PD X ct E ix f) (he : PD X ct E e g) (hs : swapsWith e (some (.Subscript (.Name x p) ix pos')) pos.line X.env = pure false := by rfl) : PSD X ct E (.Assign [.Subscript (.Name x p) ix pos'] e pos) (sPut i f g) := by
  refine PS.imp (ps_dput hu hx hi he hs) fun D σ H ⟨ua, F, ρ, u, O, P, R, ow, q⟩ => ?_
  refine tS_bind R ow q fun F1 v H1 d u1 s R1 r q1 => ?_
  cases e : getO ρ i with
  | none => rw [e] at q1; exact (show False from q1).elim
  | some o =>
    rw [e] at q1
    cases o <;> first | exact (show False from q1).elim | skip
    rename_i kds
    dsimp only at q1
    obtain ⟨a, h1, n1, n2, h4⟩ := R1.owns i _ (getO_some e)
    refine ⟨.ref a, h1, ?_⟩
    refine tS_bind R1 ow q1 fun F2 kv H2 kd u2 s2 R2 rk q2 => ?_
    cases hk : keyD kd with
    | none => rw [hk] at q2; exact (show False from q2).elim
    | some k =>
      rw [hk] at q2
      dsimp only at q2
      split at q2
      · rename_i hs
        obtain ⟨a', e1, n3, n4, kvs, g1, g2, g3, g4⟩ := R2.owns i _ (getO_some e)
        rw [h1] at e1; cases e1
        have KI : KvsI X.K ct ua F2 kvs kds := ⟨g2, g3, g4⟩
        have KP := KI.put (k := k) (r.mono s2.exF)
        obtain rfl := keyD_rep rk hk
        refine ⟨a, _, rfl, DPut.k g1 (by rw [KI.len]; exact Nat.lt_of_le_of_lt (of_decide_eq_true hs) (by decide)), ?_⟩
        exact end_change (d' := .dct (putD kds k d)) (fun h => by cases h) R2 ow (getO_some e) h1 ⟨_, upd_same, KP.nd, KP.ks, KP.rs⟩ q2
      · exact (show False from q2).elim
end
end Dl
set_option Elab.async false
set_option linter.all false
set_option maxRecDepth 100000
set_option maxHeartbeats 4000000
/-! Dl11: calls. -/
namespace Dl
open PySem L2 Evl
/-- one reading or the other -/
def orD (f g : DE) : DE := fun ρ u => match f ρ u with
  | .no => g ρ u
  | r => r
theorem PE.or {X : Cx} {e : Expr} {t t' : TE} (h : PE X e t) (h' : PE X e t') : PE X e (fun σ H Q => t σ H Q ∨ t' σ H Q) := ⟨fun pins s σ H Q I q => q.elim (h.run pins s σ H Q I) (h'.run pins s σ H Q I)⟩
theorem pd_or2 {X : Cx} {ct : Nat → Addr} {E : St → XK} {e : Expr} {f g : DE} (h : PD X ct E e f) (h' : PD X ct E e g) : PD X ct E e (orD f g) := by
  refine PE.imp (PE.or h h') fun σ H Q ⟨ua, F, ρ, u, R, q⟩ => ?_
  unfold orD at q
  cases e : f ρ u with
  | no => rw [e] at q; exact .inr ⟨ua, F, ρ, u, R, q⟩
  | ok d u1 => rw [e] at q; exact .inl ⟨ua, F, ρ, u, R, by rw [e]; exact q⟩
  | exc c gs u1 => rw [e] at q; exact .inl ⟨ua, F, ρ, u, R, by rw [e]; exact q⟩

/-! ### what defs promise -/
abbrev DF := List D → M D
/-- a def of n parameters -/
def spD (K : PySem.W.Frag) (ct : Nat → Addr) (n : Nat) (m : DF) : Sp := fun vs H Q E => ∃ ua F u ds, Bs ua F u H ∧ Reps K ct ua F vs ds ∧ ds.length = n ∧ out K ct (rD K ct) ua F H E (m ds u) Q
abbrev DFI := List D → M (List (Str × D))
def outI (K : PySem.W.Frag) (ct : Nat → Addr) (c : Nat) (a ua : Addr) (F H : Hp) (E : XK) (r : Res (List (Str × D))) (Q : VK) : Prop := match r with
  | .ok gs u' => ∀ F' H', StS ua (fun b => b = a) F H F' H' → Urn ua u' H' → F' a = none → OwnAt K ct ua F' H' a (.obj c gs) → Q .non H'
  | .exc c gs u' => ∀ F' H' dd fs, StS ua (fun b => b = a) F H F' H' → Urn ua u' H' → H' dd = some (.xd fs) → H dd = none → F' dd = none → gs.map (·.1) = fs.map (·.1) → Reps K ct ua F' (fs.map (·.2)) (gs.map (·.2)) → E (.ref (ct c)) (some dd) H'
  | .no => False
/-- __init__ of n parameters, self among them -/
def spI (K : PySem.W.Frag) (ct : Nat → Addr) (c n : Nat) (m : DFI) : Sp := fun vs H Q E => ∃ ua F u a dx ws ds, vs = .ref a :: ws ∧ Bs ua F u H ∧ a ≠ ua ∧ F a = none ∧ H a = some (.ins (ct c) dx []) ∧ Reps K ct ua F ws ds ∧ ds.length + 1 = n ∧ outI K ct c a ua F H E (m ds u) Q

section
variable {X : Cx} {ct : Nat → Addr} {E : St → XK} {k : Nat} {f C : Addr} {fd : FuncData} {ps : List Str} {n c : Nat} {m : DF} {mi : DFI} {x nm : Str} {p pos apos : Pos} {e o : Expr} {es : List Expr} {g : DA} {go : DE} {dvs : List V} {ds : List Value} {dds : List D}
abbrev PaE (X : Cx) (E : St → XK) : Prop := ∀ σ, PassesAt (L2.CX X.prog X.w) X σ (E σ)
theorem paE0 : PaE X E0' := fun σ pins H s e s' I c => passL pins σ H s e s' I c
theorem paE_of {W : XK} (tk : Takes X (fun cls d _ H => W cls d H)) : PaE X (fun _ => W) := fun σ => passAt tk σ
/-- the defaults, as data -/
def DefOk (K : PySem.W.Frag) (ct : Nat → Addr) (dvs : List V) (dds : List D) : Prop := ∀ ua F, Reps K ct ua F dvs dds
theorem defOk0 {K : PySem.W.Frag} : DefOk K ct [] [] := fun _ _ => .nil
def dCallF (m : DF) (dds : List D) (g : DA) : DE := fun ρ => bnd (g ρ) fun xs => m (xs ++ dds)
theorem sp_len {K : PySem.W.Frag} {vs : List V} {H : Hp} {Q : VK} {E : XK} (h : spD K ct n m vs H Q E) : vs.length = n := by
  obtain ⟨ua, F, u, ds, _, r, hl, _⟩ := h
  rw [r.length, hl]
/-- f(e, ..) -/
theorem pd_call (F : FnOk X.prog X.w X.K X.mg X.base (L2.CX X.prog X.w) k f fd ps (spD X.K ct n m)) (hn : ps.length = n) (hr : Room k X.A) (hg : Gl X x) (hm : X.mg x = some (.ref f)) (hk : PySem.W.keepIn X.K (.ref f) = true) (hb : Binds X.K fd ps ds) (hd : Vals dvs ds) (hdd : DefOk X.K ct dvs dds) (hx : PaE X E)
    (ha : PDA X ct E (e :: es) g) (hl : (e :: es).length + dds.length = n) (hdb : (x == ("__debug__" : Str)) = false := by decide) (he : starEach (e :: es) X.env = (false, eval e X.env) :: starEach es X.env := by rfl) (hpl : (backTo pos (starEach es X.env)).any (·.1) = false := by rfl)
    (hlen : ∀ ρ u xs u', g ρ u = .ok xs u' → xs.length = (e :: es).length) :
    PD X ct E (.Call (.Name x p) (e :: es) [] pos) (dCallF m dds g) := by
  refine PE.imp (pe_callSD F hr hg hm hk hb hd hx ha hdb he hpl) fun σ H Q ⟨ua, F, ρ, u, R, q⟩ => ?_
  refine ⟨ua, F, ρ, u, R, ?_⟩
  unfold dCallF bnd at q
  cases eg : g ρ u with
  | no => rw [eg] at q; exact q
  | exc c gs u1 => rw [eg] at q; exact q
  | ok xs u1 =>
    rw [eg] at q
    intro F1 vs H1 s hu r
    have R1 := R.step s hu
    exact ⟨ua, F1, u1, xs ++ dds, R1.toBs, r.append (hdd ua F1), by rw [List.length_append, hlen _ _ _ _ eg]; exact hl, out.mono (r := m (xs ++ dds) u1) R.toBs q s hu⟩
end
/-- every list of arguments has its length -/
def LenA (n : Nat) (g : DA) : Prop := ∀ ρ u xs u', g ρ u = .ok xs u' → xs.length = n
theorem lenA_nil : LenA 0 dNil := fun _ _ _ _ h => by cases h; rfl
theorem lenA_cons {n : Nat} {f : DE} {g : DA} (h : LenA n g) : LenA (n + 1) (dCons f g) := fun ρ u xs u' e => by
  unfold dCons bnd at e
  cases h1 : f ρ u with
  | no => rw [h1] at e; cases e
  | exc c gs u1 => rw [h1] at e; cases e
  | ok x u1 =>
    rw [h1] at e
    dsimp only at e
    cases h2 : g ρ u1 with
    | no => rw [h2] at e; cases e
    | exc c gs u1 => rw [h2] at e; cases e
    | ok ys u2 =>
      rw [h2] at e
      cases e
      rw [List.length_cons, h ρ u1 ys _ h2]
section
variable {X : Cx} {ct : Nat → Addr} {E : St → XK} {k : Nat} {f C : Addr} {fd : FuncData} {ps : List Str} {n c : Nat} {m : DF} {mi : DFI} {x nm : Str} {p pos apos : Pos} {e o : Expr} {es : List Expr} {g : DA} {go : DE} {dvs : List V} {ds : List Value} {dds : List D}
/-- f() -/
theorem pd_call0 (F : FnOk X.prog X.w X.K X.mg X.base (L2.CX X.prog X.w) k f fd [] (spD X.K ct 0 m)) (hr : Room k X.A) (hg : Gl X x) (hm : X.mg x = some (.ref f)) (hk : PySem.W.keepIn X.K (.ref f) = true) (hb : Binds X.K fd [] []) (hx : PaE X E)
    (hdb : (x == ("__debug__" : Str)) = false := by decide) : PD X ct E (.Call (.Name x p) [] [] pos) (dCallF m [] dNil) := by
  refine ⟨fun pins s σ H Q I h => ?_⟩
  refine wpAny_Call_Name_kw (ld_glob I hg hm ?_ hdb)
  obtain ⟨ua, F0, ρ, u, R, q⟩ := h
  exact PySem.W.callWith_K0 I.kIn hk (run_fnSD (us := []) (vs := []) F hr hb .nil (hx σ) I .nil ⟨ua, F0, u, [], R.toBs, .nil, rfl, q⟩)
/-! methods -/
def isObj (c : Nat) (nm : Str) : D → Bool
  | .obj c' gs => decide (c' = c) && (gs.lookup nm).isNone
  | _ => false
theorem isObj_some {x : D} (h : isObj c nm x = true) : ∃ gs, x = .obj c gs ∧ gs.lookup nm = none := by
  cases x <;> first | (cases h; done) | skip
  unfold isObj at h
  rw [Bool.and_eq_true] at h
  have h1 := of_decide_eq_true h.1
  subst h1
  exact ⟨_, rfl, by simpa using h.2⟩
theorem look_none {K : PySem.W.Frag} {ua : Addr} {F : Hp} : ∀ {fs : List (Str × V)} {gs : List (Str × D)} {f : Str}, gs.map (·.1) = fs.map (·.1) → gs.lookup f = none → fs.lookup f = none
  | [], _, _, _, _ => rfl
  | _ :: _, [], _, h, _ => by cases h
  | (a, v) :: fs, (b, d') :: gs, f, hk, h => by
    have hb : b = a := (List.cons.inj hk).1
    subst hb
    rw [List.lookup_cons] at h ⊢
    cases e : f == b with
    | true => rw [e] at h; cases h
    | false =>
      rw [e] at h
      exact look_none (K := K) (ua := ua) (F := F) (List.cons.inj hk).2 h
def dMeth (c : Nat) (nm : Str) (m : DF) (dds : List D) (go : DE) (g : DA) : DE := fun ρ => bnd (go ρ) fun x => if isObj c nm x = true then bnd (g ρ) fun xs => m (x :: (xs ++ dds)) else stuck
def tMethSD (C : Addr) (m : Str) (sp : Sp) (dvs : List V) (E : St → XK) (ta : TE) (t : TA) : TE := fun σ H Q => ta σ H fun x H1 => ∃ a dx fs, x = .ref a ∧ H1 a = some (.ins C dx fs) ∧ fs.lookup m = none ∧
  t σ H1 fun vs H2 => sp (x :: (vs ++ dvs)) H2 Q (E σ)
theorem pe_methSD {pl : Sem Bool} {sp : Sp} {ta : TE} {t : TA} (he : PE X o ta) (c : Cls X.K C) (hm : Meth X.K C nm f) (F : FnOk X.prog X.w X.K X.mg X.base (L2.CX X.prog X.w) k f fd ps sp) (hr : Room k X.A) (hb : Binds X.K fd ps ds) (hd : Vals dvs ds) (hx : PaE X E) (ha : PA X (e :: es) t)
    (hst : starEach (e :: es) X.env = (false, eval e X.env) :: starEach es X.env := by rfl) (hpl : (backTo pos (starEach es X.env)).any (·.1) = false := by rfl)
    (ht : eval (.Call (.Attribute o nm apos) (e :: es) [] pos) X.env = (do
      let ov ← eval o X.env
      standAt apos.atName
      let (f, first) ← holding [ov] (getMethod ov nm pl)
      callWith pos f first (backTo pos (starEach (e :: es) X.env)) (backToKw pos (keywordEach [] X.env))) := by rfl) :
    PE X (.Call (.Attribute o nm apos) (e :: es) [] pos) (tMethSD C nm sp dvs E ta t) := by
  refine ⟨fun pins s σ H Q I h => ?_⟩
  refine PySem.W.methodCall_KW (pl := pl) (thn (he.run pins s σ H _ I h) fun u s1 ⟨x, H1, I1, rx, a, dx, fs, ex, ea, l, q⟩ => ?_) ht
  subst ex
  obtain rfl : u = Value.ref a := rx
  refine getmeth_ok I1 ea c hm l ?_
  refine PySem.W.callWith_K (first := [.ref a]) (h₀ := X.base) I.ok.mod.kin hm.kp (thn (ha.run pos pins s1 σ H1 _ I1 q) fun us s2 ⟨vs, H2, I2, r, q2⟩ => ⟨I2.kIn, ?_⟩) hst hpl
  exact run_fnSD (us := .ref a :: us) (vs := .ref a :: vs) F hr hb hd (hx σ) I2 (.cons rfl r) q2
theorem pe_methSD0 {pl : Sem Bool} {sp : Sp} {ta : TE} (he : PE X o ta) (c : Cls X.K C) (hm : Meth X.K C nm f) (F : FnOk X.prog X.w X.K X.mg X.base (L2.CX X.prog X.w) k f fd ps sp) (hr : Room k X.A) (hb : Binds X.K fd ps ds) (hd : Vals dvs ds) (hx : PaE X E)
    (ht : eval (.Call (.Attribute o nm apos) [] [] pos) X.env = (do
      let ov ← eval o X.env
      standAt apos.atName
      let (f, first) ← holding [ov] (getMethod ov nm pl)
      callWith pos f first (backTo pos (starEach [] X.env)) (backToKw pos (keywordEach [] X.env))) := by rfl) :
    PE X (.Call (.Attribute o nm apos) [] [] pos) (tMethSD C nm sp dvs E ta tNil) := by
  refine ⟨fun pins s σ H Q I h => ?_⟩
  refine PySem.W.methodCall_KW (pl := pl) (thn (he.run pins s σ H _ I h) fun u s1 ⟨x, H1, I1, rx, a, dx, fs, ex, ea, l, q⟩ => ?_) ht
  subst ex
  obtain rfl : u = Value.ref a := rx
  refine getmeth_ok I1 ea c hm l ?_
  exact PySem.W.callWith_K0 (first := [.ref a]) I1.kIn hm.kp (run_fnSD (us := [.ref a]) (vs := [.ref a]) F hr hb hd (hx σ) I1 (.cons rfl .nil) q)
theorem tMeth_of {K : PySem.W.Frag} {t : TA} (hc : ct c = C) (hdd : DefOk K ct dvs dds) (hl : ∀ ρ u xs u', g ρ u = .ok xs u' → xs.length + dds.length + 1 = n) (ht : ∀ σ H Q, tG K ct (rA K ct) E g σ H Q → t σ H Q) : ∀ σ H Q, tG K ct (rD K ct) E (dMeth c nm m dds go g) σ H Q → tMethSD C nm (spD K ct n m) dvs E (tG K ct (rD K ct) E go) t σ H Q := by
  rintro σ H Q ⟨ua, F, ρ, u, R, q⟩
  refine tG_bind R q fun F1 v H1 x u1 s1 R1 r1 q1 => ?_
  split at q1
  · rename_i hx
    obtain ⟨gs, rfl, hn⟩ := isObj_some hx
    have r1' := r1
    cases r1 with | obj h1 h2 h3 =>
    refine ⟨_, _, _, rfl, by rw [← hc]; exact R1.ex _ _ h1, look_none (K := K) (ua := ua) (F := F1) h2 hn, ?_⟩
    apply ht
    refine ⟨ua, F1, ρ, u1, R1, ?_⟩
    unfold bnd at q1
    cases eg : g ρ u1 with
    | no => rw [eg] at q1; exact q1
    | exc c gs u2 => rw [eg] at q1; exact q1
    | ok xs u2 =>
      rw [eg] at q1
      intro F2 vs H2 s hu r
      have R2 := R1.step s hu
      exact ⟨ua, F2, u2, _ :: (xs ++ dds), R2.toBs, .cons (r1'.mono s.exF) (r.append (hdd ua F2)), by rw [List.length_cons, List.length_append]; exact hl _ _ _ _ eg, out.mono (r := m (_ :: (xs ++ dds)) u2) R1.toBs q1 s hu⟩
  · exact (show False from q1).elim
/-- o.m(e, ..) -/
theorem pd_meth {pl : Sem Bool} (he : PD X ct E o go) (c' : Cls X.K (ct c)) (hm : Meth X.K (ct c) nm f) (F : FnOk X.prog X.w X.K X.mg X.base (L2.CX X.prog X.w) k f fd ps (spD X.K ct n m)) (hr : Room k X.A) (hb : Binds X.K fd ps ds) (hd : Vals dvs ds) (hdd : DefOk X.K ct dvs dds) (hx : PaE X E) (ha : PDA X ct E (e :: es) g)
    (hl : LenA (e :: es).length g) (hn : (e :: es).length + dds.length + 1 = n)
    (hst : starEach (e :: es) X.env = (false, eval e X.env) :: starEach es X.env := by rfl) (hpl : (backTo pos (starEach es X.env)).any (·.1) = false := by rfl)
    (ht : eval (.Call (.Attribute o nm apos) (e :: es) [] pos) X.env = (do
      let ov ← eval o X.env
      standAt apos.atName
      let (f, first) ← holding [ov] (getMethod ov nm pl)
      callWith pos f first (backTo pos (starEach (e :: es) X.env)) (backToKw pos (keywordEach [] X.env))) := by rfl) :
    PD X ct E (.Call (.Attribute o nm apos) (e :: es) [] pos) (dMeth c nm m dds go g) :=
  PE.imp (pe_methSD he c' hm F hr hb hd hx ha hst hpl ht) (tMeth_of rfl hdd (fun ρ u xs u' h => by rw [hl ρ u xs u' h]; exact hn) fun _ _ _ h => h)
/-- o.m() -/
theorem pd_meth0 {pl : Sem Bool} (he : PD X ct E o go) (c' : Cls X.K (ct c)) (hm : Meth X.K (ct c) nm f) (F : FnOk X.prog X.w X.K X.mg X.base (L2.CX X.prog X.w) k f fd ps (spD X.K ct n m)) (hr : Room k X.A) (hb : Binds X.K fd ps ds) (hd : Vals dvs ds) (hdd : DefOk X.K ct dvs dds) (hx : PaE X E)
    (hn : dds.length + 1 = n)
    (ht : eval (.Call (.Attribute o nm apos) [] [] pos) X.env = (do
      let ov ← eval o X.env
      standAt apos.atName
      let (f, first) ← holding [ov] (getMethod ov nm pl)
      callWith pos f first (backTo pos (starEach [] X.env)) (backToKw pos (keywordEach [] X.env))) := by rfl) :
    PD X ct E (.Call (.Attribute o nm apos) [] [] pos) (dMeth c nm m dds go dNil) :=
  PE.imp (pe_methSD0 he c' hm F hr hb hd hx ht) (tMeth_of (t := tNil) rfl hdd (fun ρ u xs u' h => by cases h; rw [List.length_nil]; omega) fun σ H Q ⟨ua, F, ρ, u, R, q⟩ => out.ret R.toBs q .nil)
/-! a property -/
def dProp (c : Nat) (m : DF) (go : DE) : DE := fun ρ => bnd (go ρ) fun x => match x with
  | .obj c' gs => if c' = c then nx (m [.obj c' gs]) else stuck
  | _ => stuck
theorem pd_prop {pa : Addr} (he : PD X ct E e go) (c' : Cls X.K (ct c)) (hp : PropOf X.K (ct c) nm pa f) (F : FnOk X.prog X.w X.K X.mg X.base (L2.CX X.prog X.w) k f fd ps (spD X.K ct 1 m)) (hr : Room (k + 1) X.A) (hb : Binds X.K fd ps [])
    (hab : attributeBase e nm X.env (eval e X.env) = eval e X.env := by rfl) : PD X ct E (.Attribute e nm pos) (dProp c m go) := by
  refine PE.imp (pe_prop he c' hp F hr hb .nil (E := E0) passL hab) fun σ H Q ⟨ua, F, ρ, u, R, q⟩ => ?_
  refine tG_bind R q fun F1 v H1 x u1 s1 R1 r1 q1 => ?_
  cases x <;> first | exact (show False from q1).elim | skip
  dsimp only at q1
  split at q1
  · rename_i hc
    subst hc
    have r1' := r1
    cases r1 with | obj h1 h2 h3 =>
    refine ⟨_, _, _, rfl, R1.ex _ _ h1, ua, F1, u1, [_], R1.toBs, .cons r1' .nil, rfl, ?_⟩
    unfold nx at q1
    cases em : m _ u1 with
    | ok d u2 => rw [em] at q1; exact q1
    | exc c gs u2 => rw [em] at q1; exact (show False from q1).elim
    | no => rw [em] at q1; exact (show False from q1).elim
  · exact (show False from q1).elim
end
end Dl
set_option Elab.async false
set_option linter.all false
set_option maxRecDepth 100000
set_option maxHeartbeats 4000000
/-! Dl12: objects made; defs by their bodies. -/
namespace Dl
open PySem L2 Evl
open PyProof.Rows (envOfC)
section
variable {X : Cx} {ct : Nat → Addr} {E : St → XK} {k : Nat} {f C : Addr} {fd : FuncData} {ps : List Str} {n c : Nat} {m : DF} {mi : DFI} {x nm : Str} {p pos apos : Pos} {e o : Expr} {es : List Expr} {g : DA} {go : DE} {dvs : List V} {ds : List Value} {dds : List D}
def tMakeSD (C : Addr) (sp : Sp) (dvs : List V) (E : St → XK) (t : TA) : TE := fun σ H Q => t σ H fun vs H1 => ∀ x dx, H1 x = none → H1 dx = none → dx ≠ x →
  sp (.ref x :: (vs ++ dvs)) (upd (upd H1 dx (.own x)) x (.ins C dx [])) (fun v H2 => v = .non ∧ Q (.ref x) H2) (E σ)
theorem run_makeSD {pins : List (Addr × Obj)} {σ : St} {H : Hp} {s : Shared} {Q : VK} {us : List Value} {vs : List V} {sp : Sp} (M : Mk X.K C f) (F : FnOk X.prog X.w X.K X.mg X.base (L2.CX X.prog X.w) k f fd ps sp) (hr : Room (k + 1) X.A) (hb : Binds X.K fd ps ds) (hd : Vals dvs ds)
    (hx : PassesAt (L2.CX X.prog X.w) X σ (E σ)) (I : Inv X pins σ H s) (r : Vals vs us)
    (h : ∀ x dx, H x = none → H dx = none → dx ≠ x → sp (.ref x :: (vs ++ dvs)) (upd (upd H dx (.own x)) x (.ins C dx [])) (fun v H2 => v = .non ∧ Q (.ref x) H2) (E σ)) :
    wpAny (model X.prog X.w) X.A (call (.ref C) us) (EP X pins σ Q) X.xe s := by
  have hq := h (s.heap.objs.size + 1) s.heap.objs.size (I.hok.fresh (Nat.le_succ _)) (I.hok.fresh (Nat.le_refl _)) (Nat.ne_of_lt (Nat.lt_succ_self _))
  have I2 := Inv.made (C := C) I
  have r2 : Vals (V.ref (s.heap.objs.size + 1) :: (vs ++ dvs)) (Value.ref (s.heap.objs.size + 1) :: (us ++ ds)) := .cons rfl (r.append hd)
  have hl : (Value.ref (s.heap.objs.size + 1) :: us ++ ds).length = ps.length := by
    have e := r2.length
    rw [F.len _ _ _ _ hq] at e
    exact e.symm
  refine wpAny_call (make_map (f := f) I.kIn M.makes M.init (beq_iff_eq.mp M.fn) (codeAny_mono (F.run _ X.stack _ _ ⟨Value.ref (s.heap.objs.size + 1) :: us, []⟩ (Value.ref (s.heap.objs.size + 1) :: (us ++ ds)) _ _ (E σ) (hr.make C us [])
    (I2.env0.make C us []) (hb _ (Value.ref (s.heap.objs.size + 1) :: us) I2.kIn hl) r2 hq) fun r s' hq' => ?_))
  cases r with
  | error e => exact hx pins _ _ e s' I2 hq'
  | ok fl =>
    cases fl with
    | ret u =>
      obtain ⟨v, H', I3, rv, ev, q3⟩ := I2.after hq'
      subst ev
      exact ⟨rv, ⟨V.ref (s.heap.objs.size + 1), H', I3, rfl, q3⟩⟩
    | next => exact False.elim hq'
    | brk => exact False.elim hq'
    | cont => exact False.elim hq'
theorem pe_makeSD {sp : Sp} {t : TA} (M : Mk X.K C f) (F : FnOk X.prog X.w X.K X.mg X.base (L2.CX X.prog X.w) k f fd ps sp) (hr : Room (k + 1) X.A) (hg : Gl X x) (hm : X.mg x = some (.ref C)) (hb : Binds X.K fd ps ds) (hd : Vals dvs ds) (hx : PaE X E)
    (ha : PA X (e :: es) t) (hdb : (x == ("__debug__" : Str)) = false := by decide) (he : starEach (e :: es) X.env = (false, eval e X.env) :: starEach es X.env := by rfl) (hpl : (backTo pos (starEach es X.env)).any (·.1) = false := by rfl) :
    PE X (.Call (.Name x p) (e :: es) [] pos) (tMakeSD C sp dvs E t) := by
  refine ⟨fun pins s σ H Q I h => ?_⟩
  refine wpAny_Call_Name_kw (ld_glob I hg hm ?_ hdb)
  refine PySem.W.callWith_K (h₀ := X.base) I.ok.mod.kin M.kp (thn (ha.run pos pins s σ H _ I h) fun us s1 ⟨vs, H1, I1, r, q⟩ => ⟨I1.kIn, ?_⟩) he hpl
  exact run_makeSD (E := E) M F hr hb hd (hx σ) I1 r q
/-- C(e, ..) -/
def dMake (c : Nat) (mi : DFI) (dds : List D) (g : DA) : DE := fun ρ => bnd (g ρ) fun xs => bnd (mi (xs ++ dds)) fun gs => ret (.obj c gs)
theorem made_bs {ua x dx C : Addr} {F H : Hp} {u : U} (b : Bs ua F u H) (hx : H x = none) (hd : H dx = none) : Bs ua F u (upd (upd H dx (.own x)) x (.ins C dx [])) where
  ex := fun a o h => by rw [upd_ne (ne_of_none (b.ex a o h) hx), upd_ne (ne_of_none (b.ex a o h) hd)]; exact b.ex a o h
  urn := by
    show upd _ _ _ ua = _
    rw [upd_ne (ne_of_none b.urn hx), upd_ne (ne_of_none b.urn hd)]; exact b.urn
  fu := b.fu
theorem made_none {x dx C : Addr} {H : Hp} {a : Addr} (h : upd (upd H dx (.own x)) x (.ins C dx []) a = none) : H a = none := by
  by_cases e1 : a = x
  · rw [e1, upd_same] at h; cases h
  · rw [upd_ne e1] at h
    by_cases e2 : a = dx
    · rw [e2, upd_same] at h; cases h
    · rw [upd_ne e2] at h; exact h
theorem made_kp {x dx C : Addr} {H : Hp} {a : Addr} {o : HO} (hx : H x = none) (hd : H dx = none) (h : H a = some o) : upd (upd H dx (.own x)) x (.ins C dx []) a = some o := by
  rw [upd_ne (ne_of_none h hx), upd_ne (ne_of_none h hd)]; exact h
theorem make_imp {K : PySem.W.Frag} {t : TA} (hdd : DefOk K ct dvs dds) (hl : ∀ ρ u xs u', g ρ u = .ok xs u' → xs.length + dds.length + 1 = n) (ht : ∀ σ H Q, tG K ct (rA K ct) E g σ H Q → t σ H Q) : ∀ σ H Q, tG K ct (rD K ct) E (dMake c mi dds g) σ H Q → tMakeSD (ct c) (spI K ct c n mi) dvs E t σ H Q := by
  rintro σ H Q ⟨ua, F, ρ, u, R, q⟩
  apply ht
  refine ⟨ua, F, ρ, u, R, ?_⟩
  unfold dMake bnd at q
  cases eg : g ρ u with
  | no => rw [eg] at q; exact q
  | exc c gs u1 => rw [eg] at q; exact q
  | ok xs u1 =>
    rw [eg] at q
    intro F1 vs H1 s hu r y dx hy hdx hne
    have R1 := R.step s hu
    have b2 := made_bs (C := ct c) R1.toBs hy hdx
    have nyu : y ≠ ua := fun e => by rw [e, R1.urn] at hy; cases hy
    have nyF : F1 y = none := fresh_back R1.ex hy
    refine ⟨ua, F1, u1, y, dx, vs ++ dvs, xs ++ dds, rfl, b2, nyu, nyF, upd_same, r.append (hdd ua F1), by rw [List.length_append]; exact hl _ _ _ _ eg, ?_⟩
    have q : out K ct (rD K ct) ua F H (E σ) (bnd (mi (xs ++ dds)) (fun gs => ret (D.obj c gs)) u1) Q := q
    have q := q.mono R.toBs s hu
    unfold bnd at q
    -- the steps from ahead of the making
    have stp : ∀ {F' H' : Hp} {w : HO}, StS ua (fun b => b = y) F1 (upd (upd H1 dx (.own y)) y (.ins (ct c) dx [])) F' H' → F' y = none → H' y = some w → Stp ua F1 H1 (upd F' y w) H' := fun {F' H' w} t h1 h2 => by
      refine ⟨t.exF.trans (Ex.new h1), fun a o h => ?_, ?_, fun a o n h => ?_, fun a o h => ?_⟩
      · by_cases e : a = y
        · rw [e, upd_same] at h; rw [e, h2]; exact h
        · rw [upd_ne e] at h; exact t.exH a o h
      · rw [upd_ne (Ne.symm nyu)]; exact t.nu
      · exact t.kp a o n (ne_of_none h hy) (made_kp hy hdx h)
      · by_cases e : a = y
        · rw [e]; exact .inr hy
        · rw [upd_ne e] at h
          rcases t.fr a o h with z | z | z
          · exact .inl z
          · exact .inr (made_none z)
          · exact absurd z e
    cases em : mi (xs ++ dds) u1 with
    | no => rw [em] at q; exact q
    | ok gs u2 =>
      rw [em] at q
      intro F' H' t hu' hy' ow
      have ow' := ow
      obtain ⟨dx', fs, g1, g2, g3⟩ := ow
      refine ⟨rfl, q _ _ _ (stp t hy' g1) hu' (.obj upd_same g2 (g3.mono (Ex.new hy')))⟩
    | exc c' gs u2 =>
      rw [em] at q
      intro F' H' dd fs t hu' hdd' h0 hf k r
      have t' : Stp ua F1 H1 (fun b => if b = y then none else F' b) H' := by
        refine ⟨fun a o h => ?_, fun a o h => ?_, ?_, fun a o n h => t.kp a o n (ne_of_none h hy) (made_kp hy hdx h), fun a o h => ?_⟩
        · show (if a = y then none else F' a) = some o
          rw [if_neg (ne_of_none h nyF)]; exact t.exF a o h
        · replace h : (if a = y then none else F' a) = some o := h
          split at h
          · cases h
          · exact t.exH a o h
        · show (if ua = y then none else F' ua) = none
          rw [if_neg (Ne.symm nyu)]; exact t.nu
        · replace h : (if a = y then none else F' a) = some o := h
          split at h
          · cases h
          · rename_i e
            rcases t.fr a o h with z | z | z
            · exact .inl z
            · exact .inr (made_none z)
            · exact absurd z e
      cases hy2 : F' y with
      | none =>
        have e : (fun b => if b = y then none else F' b) = F' := by
          funext b
          by_cases e : b = y
          · rw [if_pos e, e, hy2]
          · rw [if_neg e]
        rw [e] at t'
        exact q F' H' dd fs t' hu' hdd' (made_none h0) hf k r
      | some w =>
        have t2 : Stp ua F1 H1 F' H' := by
          refine ⟨t.exF, t.exH, t.nu, t'.kp, fun a o h => ?_⟩
          rcases t.fr a o h with z | z | z
          · exact .inl z
          · exact .inr (made_none z)
          · exact .inr (by rw [z]; exact hy)
        exact q F' H' dd fs t2 hu' hdd' (made_none h0) hf k r
theorem pd_make (M : Mk X.K (ct c) f) (F : FnOk X.prog X.w X.K X.mg X.base (L2.CX X.prog X.w) k f fd ps (spI X.K ct c n mi)) (hr : Room (k + 1) X.A) (hg : Gl X x) (hm : X.mg x = some (.ref (ct c))) (hb : Binds X.K fd ps ds) (hd : Vals dvs ds) (hdd : DefOk X.K ct dvs dds) (hx : PaE X E)
    (ha : PDA X ct E (e :: es) g) (hl : LenA (e :: es).length g) (hn : (e :: es).length + dds.length + 1 = n) (hdb : (x == ("__debug__" : Str)) = false := by decide) (he : starEach (e :: es) X.env = (false, eval e X.env) :: starEach es X.env := by rfl) (hpl : (backTo pos (starEach es X.env)).any (·.1) = false := by rfl) :
    PD X ct E (.Call (.Name x p) (e :: es) [] pos) (dMake c mi dds g) :=
  PE.imp (pe_makeSD M F hr hg hm hb hd hx ha hdb he hpl) (make_imp hdd (fun ρ u xs u' h => by rw [hl ρ u xs u' h]; exact hn) fun _ _ _ h => h)
end

/-! ### defs by their bodies -/
def ρ0 (n : Nat) (ds : List D) : En := ds.map .val ++ List.replicate (n - ds.length) .no
/-- a body's end as a call's -/
def endB (r : SR) : Res D := match r with
  | .nx _ u => .ok .non u
  | .rt d u => .ok d u
  | .ex c gs _ u => .exc c gs u
  | _ => .no
def runB (n : Nat) (f : DS) : DF := fun ds u => endB (f (ρ0 n ds) u)
section
variable {P : Program} {w : World} {K : PySem.W.Frag} {mg : Str → Option Value} {base : Heap} {ct : Nat → Addr}
/-- the context of a def's body -/
abbrev BX (P : Program) (w : World) (K : PySem.W.Frag) (mg : Str → Option Value) (base : Heap) (N : List Str) (qual : Str) (st : Stmt) (f : Addr) (cdv : Value) (A : Around) (outer : List Env) (s : Shared) (H : Hp) (E : XK) : Cx := cxOf (L2.CX P w) P w K mg base N qual (defScope st) f cdv A outer s H E
theorem bx_takes {N : List Str} {qual : Str} {st : Stmt} {f : Addr} {cdv : Value} {A : Around} {outer : List Env} {s : Shared} {H : Hp} {E : XK} : Takes (BX P w K mg base N qual st f cdv A outer s H E) (fun cls d _ H => E cls d H) := takes_of rfl rfl rfl rfl
theorem bx_pa {N : List Str} {qual : Str} {st : Stmt} {f : Addr} {cdv : Value} {A : Around} {outer : List Env} {s : Shared} {H : Hp} {E : XK} : PaE (BX P w K mg base N qual st f cdv A outer s H E) (fun _ => E) := paE_of bx_takes
theorem bx_passes {N : List Str} {qual : Str} {st : Stmt} {f : Addr} {cdv : Value} {A : Around} {outer : List Env} {s : Shared} {H : Hp} {E : XK} : PassesOwn (model (BX P w K mg base N qual st f cdv A outer s H E).prog (BX P w K mg base N qual st f cdv A outer s H E).w) (BX P w K mg base N qual st f cdv A outer s H E).A (BX P w K mg base N qual st f cdv A outer s H E).env (BX P w K mg base N qual st f cdv A outer s H E).xe := passes_of rfl
theorem start_len (N : List Str) (vs : List V) : (L2.start N vs).length = vs.length + (N.length - vs.length) := by unfold L2.start; rw [List.length_append, List.length_map, List.length_replicate]
theorem start_get {N : List Str} {vs : List V} {i : Nat} {v : V} (h : vs[i]? = some v) : (L2.start N vs)[i]? = some (some v) := by
  unfold L2.start
  have hl := (List.getElem?_eq_some_iff.mp h).1
  rw [List.getElem?_append_left (by simpa using hl), List.getElem?_map, h]; rfl
theorem ρ0_get {n : Nat} {ds : List D} {i : Nat} {d : D} (h : (ρ0 n ds)[i]? = some (.val d)) : ds[i]? = some d := by
  unfold ρ0 at h
  by_cases hl : i < ds.length
  · rw [List.getElem?_append_left (by simpa using hl), List.getElem?_map] at h
    cases e : ds[i]? with
    | none => rw [e] at h; cases h
    | some x => rw [e] at h; cases h; rfl
  · rw [List.getElem?_append_right (by simpa using hl), List.getElem?_replicate] at h
    split at h <;> cases h
theorem ρ0_own {n : Nat} {ds : List D} {i : Nat} {d : D} : (ρ0 n ds)[i]? ≠ some (.own d) := by
  unfold ρ0
  by_cases hl : i < ds.length
  · rw [List.getElem?_append_left (by simpa using hl), List.getElem?_map]
    cases ds[i]? <;> (intro h; cases h)
  · rw [List.getElem?_append_right (by simpa using hl), List.getElem?_replicate]
    split <;> (intro h; cases h)
theorem StS.stp {ua : Addr} {F H F' H' : Hp} (s : StS ua (fun _ => False) F H F' H') : Stp ua F H F' H' := ⟨s.exF, s.exH, s.nu, fun b o n h => s.kp b o n (fun z => z) h, fun b o h => (s.fr b o h).elim .inl fun z => z.elim .inr False.elim⟩
/-- a def keeps what its body's mirror says -/
theorem fn_D {x qual : Str} {st : Stmt} {f : Addr} {fd : FuncData} {dvs : List V} {kws : List (Str × V)} {N ps : List Str} {k : Nat} {m : DS} (F : L2.FunD K x qual (defArgs st) (defBody st) (defScope st) dvs kws f fd) (S : FnScope N ps (defScope st))
    (hb : ∀ (cdv : Value) (A : Around) (outer : List Env) (s : Shared) (H : Hp) (E : XK), Room k (A.deeper (envOfC qual (defScope st) s.heap.objs.size f cdv)) → PSDs (BX P w K mg base N qual st f cdv A outer s H E) ct (fun _ => E) (defBody st) m) :
    FnOk P w K mg base (L2.CX P w) (k + 1) f fd ps (spD K ct ps.length (runB N.length m)) := by
  refine F.ok S (fun vs H Q E h => sp_len h) fun cdv A outer s H vs Q E hr h => ⟨_, hb cdv A outer s H E hr, ?_⟩
  obtain ⟨ua, F, u, ds, b, r, hl, q⟩ := h
  have hp : ps.length ≤ N.length := by have := congrArg List.length S.pre; rw [List.length_take] at this; omega
  refine ⟨ua, F, ρ0 N.length ds, u, fun _ => False, fun _ => False, ⟨⟨b, ?_, fun i d h => ?_, fun i d h => absurd h ρ0_own⟩, fun i j d e a h => absurd h ρ0_own, fun i c gs a h => absurd h ρ0_own⟩, fun b ⟨i, d, h, _⟩ => absurd h ρ0_own, ?_⟩
  · rw [start_len, r.length]
    unfold ρ0
    rw [List.length_append, List.length_map, List.length_replicate]
  · obtain ⟨v, h1, h2⟩ := r.get' (ρ0_get h)
    exact ⟨v, start_get h1, h2⟩
  · unfold runB at q
    cases em : m (ρ0 N.length ds) u with
    | nx ρ u1 => rw [em] at q; exact fun F' H' σ' s R o => q F' .non H' s.stp R.urn .non
    | rt d u1 => rw [em] at q; exact fun F' H' v s hu r => q F' v H' s.stp hu r
    | ex c gs ρ u1 =>
      rw [em] at q
      exact fun F' H' σ' dd fs s R o hd h0 hf k r => q F' H' dd fs s.stp R.urn hd h0 hf k r
    | bk ρ u1 => rw [em] at q; exact (show False from q).elim
    | ct ρ u1 => rw [em] at q; exact (show False from q).elim
    | no => rw [em] at q; exact (show False from q).elim
/-! __init__ -/
def endI (c : Nat) (r : SR) : Res (List (Str × D)) := match r with
  | .nx ρ u => match getO ρ 0 with
    | some (.obj c' gs) => if c' = c then .ok gs u else .no
    | _ => .no
  | .ex c gs _ u => .exc c gs u
  | _ => .no
def runI (c n : Nat) (f : DS) : DFI := fun ds u => endI c (f (.own (.obj c []) :: ρ0 (n - 1) ds) u)
theorem fn_I {x qual : Str} {st : Stmt} {f : Addr} {fd : FuncData} {dvs : List V} {kws : List (Str × V)} {N ps : List Str} {k c : Nat} {m : DS} (F : L2.FunD K x qual (defArgs st) (defBody st) (defScope st) dvs kws f fd) (S : FnScope N ps (defScope st))
    (hb : ∀ (cdv : Value) (A : Around) (outer : List Env) (s : Shared) (H : Hp) (E : XK), Room k (A.deeper (envOfC qual (defScope st) s.heap.objs.size f cdv)) → PSDs (BX P w K mg base N qual st f cdv A outer s H E) ct (fun _ => E) (defBody st) m) :
    FnOk P w K mg base (L2.CX P w) (k + 1) f fd ps (spI K ct c ps.length (runI c N.length m)) := by
  refine F.ok S (fun vs H Q E h => ?_) fun cdv A outer s H vs Q E hr h => ⟨_, hb cdv A outer s H E hr, ?_⟩
  · obtain ⟨ua, F, u, a, dx, ws, ds, rfl, _, _, _, _, r, hl, _⟩ := h
    rw [List.length_cons, r.length, hl]
  obtain ⟨ua, F, u, a, dx, ws, ds, rfl, b, n1, n2, hH, r, hl, q⟩ := h
  have hp : ps.length ≤ N.length := by have := congrArg List.length S.pre; rw [List.length_take] at this; omega
  have e0 : ∀ {i : Nat} {d : D}, (Slot.own (D.obj c []) :: ρ0 (N.length - 1) ds)[i]? = some (.own d) → i = 0 ∧ d = .obj c [] := fun {i d} h => by
    cases i with
    | zero => cases h; exact ⟨rfl, rfl⟩
    | succ i => rw [List.getElem?_cons_succ] at h; exact absurd h ρ0_own
  have s0 : (L2.start N (.ref a :: ws))[0]? = some (some (.ref a)) := start_get rfl
  refine ⟨ua, F, .own (.obj c []) :: ρ0 (N.length - 1) ds, u, fun b => b = a, fun b => b = a, ⟨⟨b, ?_, fun i d h => ?_, fun i d h => ?_⟩, fun i j d e a h h' _ _ => ?_, fun i c gs b h h2 => ?_⟩, fun b ⟨i, d, h, h2⟩ => ?_, ?_⟩
  · rw [start_len, List.length_cons, List.length_cons, r.length]
    unfold ρ0
    rw [List.length_append, List.length_map, List.length_replicate]
    omega
  · cases i with
    | zero => cases h
    | succ i =>
      rw [List.getElem?_cons_succ] at h
      obtain ⟨v, h1, h2⟩ := r.get' (ρ0_get h)
      exact ⟨v, start_get (by rw [List.getElem?_cons_succ]; exact h1), h2⟩
  · obtain ⟨rfl, rfl⟩ := e0 h
    exact ⟨a, s0, n1, n2, dx, [], hH, rfl, .nil⟩
  · rw [(e0 h).1, (e0 h').1]
  · obtain ⟨rfl, _⟩ := e0 h
    rw [s0] at h2; cases h2; rfl
  · obtain ⟨rfl, _⟩ := e0 h
    rw [s0] at h2; cases h2; rfl
  · unfold runI at q
    cases em : m (.own (.obj c []) :: ρ0 (N.length - 1) ds) u with
    | nx ρ u1 =>
      rw [em] at q
      unfold endI at q
      dsimp only at q
      cases eg : getO ρ 0 with
      | none => rw [eg] at q; exact (show False from q).elim
      | some d =>
        rw [eg] at q
        cases d <;> first | exact (show False from q).elim | skip
        dsimp only at q
        split at q
        · rename_i hc
          subst hc
          intro F' H' σ' s R o
          obtain ⟨a', g1, g2, g3, g4⟩ := R.owns 0 _ (getO_some eg)
          obtain rfl : a' = a := R.obj 0 _ _ a' (getO_some eg) g1
          exact q F' H' s R.urn g3 g4
        · exact (show False from q).elim
    | ex c' gs ρ u1 =>
      rw [em] at q
      intro F' H' σ' dd fs s R o hd h0 hf k r
      exact q F' H' dd fs s R.urn hd h0 hf k r
    | rt d u1 => rw [em] at q; exact (show False from q).elim
    | bk ρ u1 => rw [em] at q; exact (show False from q).elim
    | ct ρ u1 => rw [em] at q; exact (show False from q).elim
    | no => rw [em] at q; exact (show False from q).elim
end
end Dl
set_option Elab.async false
set_option linter.all false
set_option maxRecDepth 100000
set_option maxHeartbeats 4000000
/-! DlExc: own exceptions: class X(B): def __init__(self, p): super().__init__(p); self.f = p. -/
namespace DlX
open PySem PySem.W PySem.Calls PyProof.Rows
/-- what the written part says of such a class -/
structure ExC (P : Program) (K : Frag) (C fI cc cda : Addr) (qual par fld : Str) (st : Stmt) (B newId initId : String) (bmB : List Value) : Prop where
  FB : ExcBaseFacts B newId initId bmB
  KF : KxsFacts B initId
  SF : StoreFacts B bmB "object.__setattr__" "object"
  q : excInitIn K C bmB newId = true
  ov : excOver K C bmB = true
  hd : hasDictIn K C = true
  sa : findIn K (.ref C) "__setattr__" = some (some (.builtin "object.__setattr__"))
  ini : findIn K (.ref C) "__init__" = some (some (.ref fI))
  tyI : typeIn K (.ref fI) = some (.type "function")
  exC : subIn K (.ref C) (.type "BaseException") = some true
  tyC : typeIn K (.ref C) = some (.type "type")
  kC : keepIn K (.ref C) = true
  noF : findIn K (.ref C) fld = some none
  lk : ∃ (oc : Value) (od : Option Addr) (dV kV doc pm : Value) (an : Option Addr) (ct : Value) (osl : Array (Option Value)), K.lookup fI = some ⟨oc, od, .func (ksFn "__init__" qual (L2.defArgs st) (L2.defBody st) (L2.defScope st) dV kV doc pm an (.ref cda) ct cc), osl⟩ ∧
    (∀ u v : Value, bindArgs (ksFn "__init__" qual (L2.defArgs st) (L2.defBody st) (L2.defScope st) dV kV doc pm an (.ref cda) ct cc) ⟨[u, v], []⟩ = pure ([(("self" : Str), u), (par, v)] : List (Str × Value)))
  cd : codeIn K (.ref cda) qual = true
  code : ∃ (ccl : Value) (cdd : Option Addr) (vs : Array Value) (ccs : Array (Option Value)) (file : Str) (tf : Tok), K.lookup cda = some ⟨ccl, cdd, .fields vs, ccs⟩ ∧ vs[2]? = some (.str file tf) ∧ ((P.main.file : Str) == file) = true
  cell : ∃ (cl : Value) (cld : Option Addr) (csl : Array (Option Value)), K.lookup cc = some ⟨cl, cld, .cell (some (.ref C)), csl⟩
  sup : ks_superIn K C C "__init__" = some (some (.builtin initId))
  subB : subIn K (.ref C) (.type B) = some true
  mroC : mroIn K C (.ref C) = some true
  opq : nsIn K cStatics "thirdparty.any" = some none
  topS : (P.main.scope.names.lookup ("super" : Str)).isSome = false
/-- .. and its text -/
structure ExT (qual par fld : Str) (st : Stmt) : Prop where
  body : ∃ p0 p1 p2 p3 p4 p5 p6 p7 p8 p9, L2.defBody st = [.Expr (.Call (.Attribute (.Call (.Name "super" p0) [] [] p1) "__init__" p2) [.Name par p3] [] p4) p5, .Assign [.Attribute (.Name "self" p6) fld p7] (.Name par p8) p9] ∧
    (∀ (dV kV doc pm : Value) (an : Option Addr) (cda : Addr) (ct : Value) (cc L fI : Addr), ∃ pl : Sem Bool, eval (.Call (.Attribute (.Call (.Name "super" p0) [] [] p1) "__init__" p2) [.Name par p3] [] p4) (callEnv (ksFn "__init__" qual (L2.defArgs st) (L2.defBody st) (L2.defScope st) dV kV doc pm an (.ref cda) ct cc) L fI) = (do
      let ov ← attributeBase (.Call (.Name "super" p0) [] [] p1) "__init__" (callEnv (ksFn "__init__" qual (L2.defArgs st) (L2.defBody st) (L2.defScope st) dV kV doc pm an (.ref cda) ct cc) L fI) (eval (.Call (.Name "super" p0) [] [] p1) (callEnv (ksFn "__init__" qual (L2.defArgs st) (L2.defBody st) (L2.defScope st) dV kV doc pm an (.ref cda) ct cc) L fI))
      standAt p2.atName
      let (f, first) ← holding [ov] (getMethod ov "__init__" pl)
      callWith p4 f first (backTo p4 (starEach [.Name par p3] (callEnv (ksFn "__init__" qual (L2.defArgs st) (L2.defBody st) (L2.defScope st) dV kV doc pm an (.ref cda) ct cc) L fI))) [])) ∧
    (∀ env : Env, swapsWith (.Call (.Attribute (.Call (.Name "super" p0) [] [] p1) "__init__" p2) [.Name par p3] [] p4) none p5.line env = pure false) ∧ (∀ env : Env, swapsWith (.Name par p8) (some (.Attribute (.Name "self" p6) fld p7)) p9.line env = pure false)
  head : ∃ ar, ((L2.defArgs st).posonlyargs ++ (L2.defArgs st).args).head? = some ar ∧ ar.arg = "self"
  kind : (L2.defScope st).kind = .function
  co : (L2.defScope st).isCoroutine = false
  gen : (L2.defScope st).isGenerator = false
  nocell : ∀ x ∈ (L2.defScope st).names, x.2 ≠ .cell
  lself : (L2.defScope st).names.lookup ("self" : Str) = some .local
  lpar : (L2.defScope st).names.lookup par = some .local
  lcls : (L2.defScope st).names.lookup ("__class__" : Str) = some .free
  lsup : (L2.defScope st).names.lookup ("super" : Str) = some .globalImplicit
  ne : (("self" : Str) == par) = false
  dbg : (par == ("__debug__" : Str)) = false
section
variable {P : Program} {w : World} {A : Around} {K : Frag} {C fI cc cda x t0 : Addr} {qual par fld : Str} {st : Stmt} {B newId initId : String} {bmB : List Value} {s : Shared} {u : Value} {R : Result → Shared → Prop} {mg mb : Str → Option Value}
theorem exc_run (T : ExC P K C fI cc cda qual par fld st B newId initId bmB) (X2 : ExT qual par fld st) (X : K.In s.heap) (hlim : s.heap.NoLimit) (gl : s.heap.Ns mainGlobals mg) (bl : s.heap.Ns builtinsNs mb) (hms : mg "super" = none) (hmb : mb "super" = some (.type "super"))
    (hroom : A.depth < recursionLimit) (hx : s.heap.get? x = some (HandSPX.excO C t0)) (hxk : K.lookup x = none)
    (hq : ∀ s' t1 d, (∀ b o, b ≠ x → s.heap.get? b = some o → s'.heap.get? b = some o) → s'.gens = s.gens → s'.os = s.os → s.heap.objs.size ≤ d → s'.heap.get? x = some { cls := .ref C, dict := some d, data := .fields #[.ref t1, .none, .none, .none, .bool false, .none] } →
      s'.heap.Ns1 d (fun y => if y = fld then some u else none) → R (.ok (.ret .none)) s') : codeAny (model P w) A (.call (.ref fI) ⟨[.ref x, u], []⟩) R s := by
  obtain ⟨oc, od, dV, kV, doc, pm, an, ct, osl, hlk, hbind⟩ := T.lk
  obtain ⟨p0, p1, p2, p3, p4, p5, p6, p7, p8, p9, hbody, hev, hsw1, hsw2⟩ := X2.body
  obtain ⟨ar, har, hself⟩ := X2.head
  obtain ⟨ccl, cdd, vs, ccs, file, tf, hcode, hvs, hfile⟩ := T.code
  obtain ⟨cl, cld, csl, hcell⟩ := T.cell
  obtain ⟨nm, N', qn, bs, bm, hdct, sn, sub, ab, col, dd, k0, k1, k2, k3, k5, hC, hT⟩ := excInit_of X T.q
  refine ks_codeAny_call_defAt (fd := ksFn "__init__" qual (L2.defArgs st) (L2.defBody st) (L2.defScope st) dV kV doc pm an (.ref cda) ct cc) (body := L2.defBody st) (binds := [("self", .ref x), (par, u)]) hroom (X _ _ hlk) rfl hlim (codeRec_of X T.cd) rfl (.of_eq (hbind (.ref x) u)) X2.nocell (fun y hy => ?_) (fun h₁ hns hk₁ => ?_) X2.co X2.gen X2.kind
  · rcases List.mem_cons.mp hy with rfl | hy
    · exact X2.lself
    · rw [List.mem_singleton.mp hy]; exact X2.lpar
  have X1 : K.In h₁ := X.keeps hk₁
  have hL : s.heap.objs.size ≠ x := Nat.ne_of_gt (Heap.lt_size hx)
  have mself : (List.lookup ("self" : Str) ([("self", Value.ref x), (par, u)] : List (Str × Value)).reverse) = some (.ref x) := by
    show List.lookup ("self" : Str) [(par, u), ("self", Value.ref x)] = _
    simp only [List.lookup, X2.ne, beq_self_eq_true]
  have mpar : (List.lookup par ([("self", Value.ref x), (par, u)] : List (Str × Value)).reverse) = some u := by
    show List.lookup par [(par, u), ("self", Value.ref x)] = _
    simp only [List.lookup, beq_self_eq_true]
  have hCd : ∃ cd, clsIn K C = some cd ∧ cd.hasDict = true := any_some T.hd
  obtain ⟨cd0, hcd0, hhd⟩ := hCd
  have hsup : alongIn K "__init__" ((cd0.mro.dropWhile (· != .ref C)).drop 1) = some (some (.builtin initId)) := by
    have := T.sup
    unfold ks_superIn at this
    rw [hcd0] at this
    exact this
  have hx1 := hk₁ _ _ hx
  obtain ⟨pl, hev⟩ := hev dV kV doc pm an cda ct cc s.heap.objs.size fI
  rw [show execs (L2.defBody st) = execs [.Expr (.Call (.Attribute (.Call (.Name "super" p0) [] [] p1) "__init__" p2) [.Name par p3] [] p4) p5, .Assign [.Attribute (.Name "self" p6) fld p7] (.Name par p8) p9] from by rw [hbody]]
  refine ks_wpAt_execs_cons (ks_wpAt_Expr_any (ks_wpAt_MethodCall (pl := pl) ?_ hev) (by simp [interactive, callEnv, newEnv, X2.kind]) (hsw1 _))
  refine ks_wpAt_super_base (fd := ksFn "__init__" qual (L2.defArgs st) (L2.defBody st) (L2.defScope st) dV kV doc pm an (.ref cda) ct cc) X2.lsup X2.lcls rfl rfl (X1 _ _ hlk) rfl har rfl (X1 _ _ hcode) rfl hvs hfile T.topS ?_
  refine ks_loadName_global X2.kind X2.lsup (loadGlobal_builtin (gl.keeps hk₁) hms (bl.keeps hk₁) hmb ⟨rfl, ?_⟩)
  refine wpAny_loadName_free X2.kind X2.lcls rfl ⟨_, X1 _ _ hcell, rfl⟩ ?_
  refine wpAny_loadName_local X2.kind (by rw [hself]; exact X2.lself) hns (by rw [hself]; exact mself) ?_
  refine ks_wpAny_isType_cls (hk₁ _ _ hC) rfl ⟨rfl, ?_⟩
  refine ks_wpAny_call_super (hk₁ _ _ hC) rfl hx1 rfl (fun c e => by cases e) (looks_mroIn X1 T.mroC) (fun h' e k => ?_)
  have X' : K.In h' := X1.keeps k
  have hx' := k _ _ hx1
  have I' : InstAt h' x (HandSPX.excO C t0) C none := ⟨hx', rfl, rfl, trivial⟩
  refine kxs_getMethod T.KF e (looks_opaque X' T.opq) (l₀ := cd0.mro) (fun A Q E s k q => wpAny_bind ((looks_clsIn X' hcd0) A _ E s k (wpAny_pure q))) rfl X' hsup (I'.type.andThen (looks_subIn X' T.subB)) (ks_ne X' I' hcd0) rfl ?_
  have k2 : ∀ b o, h'.get? b = some o → (h'.push (kxs_mw initId x)).get? b = some o := fun b o e => Heap.get?_push_of_some _ e
  have hu := Heap.get?_push_size (o := kxs_mw initId x) h' rfl
  refine kxs_callWith (i := initId) (x := x) (by rfl) (evalArgs_plain (spliced_more (env := (callEnv (ksFn "__init__" qual (L2.defArgs st) (L2.defBody st) (L2.defScope st) dV kV doc pm an (.ref cda) ct cc) s.heap.objs.size fI)) (wpAny_Name (env := (callEnv (ksFn "__init__" qual (L2.defArgs st) (L2.defBody st) (L2.defScope st) dV kV doc pm an (.ref cda) ct cc) s.heap.objs.size fI)) (wpAny_loadName_local (env := (callEnv (ksFn "__init__" qual (L2.defArgs st) (L2.defBody st) (L2.defScope st) dV kV doc pm an (.ref cda) ct cc) s.heap.objs.size fI)) X2.kind X2.lpar ((hns.keeps k).keeps k2) mpar (spliced_none ⟨hu, ?_⟩)) X2.dbg) rfl))
  have hx2 := k2 _ _ hx'
  have hC2 := k2 _ _ (k _ _ (hk₁ _ _ hC))
  refine wpAny_call (codeAny_of_tree ?_)
  show wpAny _ _ (callAny (.ref h'.objs.size) ⟨[u], []⟩) _ _ _
  simp only [callAny]
  refine wpAny_bind (wpAny_load hu ?_)
  simp only [kxs_mw, show (Value.type "method-wrapper" == Value.type "method" || Value.type "method-wrapper" == Value.type "builtin_function_or_method" || Value.type "method-wrapper" == Value.type "method-wrapper") = true by decide, if_true]
  refine KFB.if_so (by decide) ?_
  refine wpAny_bind (check_bound_init T.FB.toExcCallFacts hC2 hx2 rfl ?_)
  refine wpAny_bind (wpAny_pure (wpAny_pure ?_))
  refine ⟨plainId_quiet T.FB.init.plain _, codeAny_builtin T.FB.initEntry ?_⟩
  refine exc_init_tree (cls := .ref C) (t0 := t0) (dv := none) (c2 := .none) (c3 := .none) (b4 := .bool false) hx2 (by show 1 ≤ sizeLine; decide) fun h3 k3 hx3 _ => ?_
  -- self.fld = par
  refine ks_wpAt_execs_cons (ks_wpAt_Assign_Attr ?_ (hsw2 _))
  have hns3 : h3.Ns s.heap.objs.size (fun y => List.lookup y ([(("self" : Str), Value.ref x), (par, u)] : List (Str × Value)).reverse) := by
    obtain ⟨o, es, ep, e0, r⟩ := hns
    exact ⟨o, es, ep, k3 _ _ hL (k2 _ _ (k _ _ e0)), r⟩
  have X3 : K.In h3 := fun b o z => by
    by_cases hb : b = x
    · rw [hb, hxk] at z; cases z
    · exact k3 b o hb (k2 _ _ (X' b o z))
  refine wpAt_of_wpAny (wpAny_Name (env := (callEnv (ksFn "__init__" qual (L2.defArgs st) (L2.defBody st) (L2.defScope st) dV kV doc pm an (.ref cda) ct cc) s.heap.objs.size fI)) (wpAny_loadName_local (env := (callEnv (ksFn "__init__" qual (L2.defArgs st) (L2.defBody st) (L2.defScope st) dV kV doc pm an (.ref cda) ct cc) s.heap.objs.size fI)) X2.kind X2.lpar hns3 mpar ?_) X2.dbg)
  refine wpAny_Name (env := (callEnv (ksFn "__init__" qual (L2.defArgs st) (L2.defBody st) (L2.defScope st) dV kV doc pm an (.ref cda) ct cc) s.heap.objs.size fI)) (wpAny_loadName_local (env := (callEnv (ksFn "__init__" qual (L2.defArgs st) (L2.defBody st) (L2.defScope st) dV kV doc pm an (.ref cda) ct cc) s.heap.objs.size fI)) X2.kind X2.lself hns3 mself ?_)
  have I3 : InstAt h3 x (excRec (.ref C) (h'.push (kxs_mw initId x)).objs.size none .none .none (.bool false)) C none := ⟨hx3, rfl, rfl, trivial⟩
  refine set_plain X3 I3 T.sa (osa_openX (od := none) T.SF X3 I3 T.ov (by unfold takerIn; rw [T.noF]; rfl) fun b => ?_)
  refine wpAny_bind (wpAny_pure (wpAny_bind (instanceDict_exc (c2 := .none) hx3 (looks_clsIn X3 hcd0) hhd ?_)))
  have hsz : h3.objs.size ≠ x := Nat.ne_of_gt (Heap.lt_size hx3)
  refine HandSPX.store_in_new ?_ fun h4 tk4 hn4 hs4 => ?_
  · exact ⟨_, #[], _, (Heap.get?_update_ne _ _ _ _ hsz).trans (Heap.get?_push_at rfl rfl), rfl, fun e he => absurd he (by simp), fun _ => rfl⟩
  · refine wpAt_of_wpAny (wpAny_execs_nil ?_)
    have kk : ∀ b o, s.heap.get? b = some o → b ≠ x → h3.get? b = some o := fun b o z hb => k3 b o hb (k2 _ _ (k _ _ (hk₁ b o z)))
    refine hq _ (h'.push (kxs_mw initId x)).objs.size h3.objs.size (fun b o hb z => ?_) rfl rfl ?_ ?_ hn4
    · have z3 := kk b o z hb
      exact (hs4.2 b (Nat.ne_of_lt (Heap.lt_size z3))).trans ((Heap.get?_update_ne _ _ _ _ hb).trans (Heap.get?_push_of_some _ z3))
    · obtain ⟨o, es, ep, e0, r⟩ := hns3
      exact Nat.le_of_lt (Heap.lt_size e0)
    · exact (hs4.2 x (Ne.symm hsz)).trans (Heap.get?_update_self _ (Heap.get?_push_of_some _ hx3) rfl)
end
end DlX
set_option Elab.async false
set_option linter.all false
set_option maxRecDepth 100000
set_option maxHeartbeats 4000000
/-! DlExc2: raise of an own exception; try .. except. -/
namespace Dl
open PySem L2 Evl DlX
/-- C(e), an own exception with one field -/
def tMkE (C : Addr) (fld : Str) (te : TE) : L2.St → Hp → XK → Prop := fun σ H Q => te σ H fun y H1 => ∀ d, H1 d = none → Q (.ref C) (some d) (upd H1 d (.xd [(fld, y)]))
theorem pmk_ex {X : Cx} {C fI cc cda : Addr} {qual par fld : Str} {st : Stmt} {B newId initId : String} {bmB : List Value} {x : Str} {p pos : Pos} {e : Expr} {te : TE} (T : ExC X.prog X.K C fI cc cda qual par fld st B newId initId bmB) (X2 : ExT qual par fld st) (hms : X.mg "super" = none) (hr : Room 1 X.A)
    (hg : Gl X x) (hm : X.mg x = some (.ref C)) (he : PE X e te) (hdb : (x == ("__debug__" : Str)) = false := by decide) (hst : starEach [e] X.env = (false, eval e X.env) :: starEach [] X.env := by rfl) (hpl : (backTo pos (starEach [] X.env)).any (·.1) = false := by rfl) :
    PMk X (.Call (.Name x p) [e] [] pos) (tMkE C fld te) := by
  intro pins s σ H Q I h
  refine wpAny_Call_Name_kw (ld_glob I hg hm ?_ hdb)
  refine PySem.W.callWith_K (h₀ := X.base) I.ok.mod.kin T.kC (PyProof.Rows.spliced_more (thn (he.run pins s σ H _ I h) fun u s1 ⟨y, H1, I1, ry, q1⟩ => PyProof.Rows.spliced_none ⟨I1.kIn, ?_⟩) hst) hst hpl
  show wpAny _ _ (call (.ref C) [u]) _ _ _
  obtain ⟨nm, N', qn, bs, bm, hdct, sn, sub, ab, col, dd, k0, k1, k2, k3, k5, hC, hT⟩ := PySem.W.excInit_of I1.kIn T.q
  obtain ⟨mb, hb1, hb2⟩ := I1.mod.blt
  have hbk := I1.bk
  have hlim : s1.heap.NoLimit := I1.mod.nolimit.keeps hbk
  have hglob := I1.mod.glob.keeps hbk
  have hblt := hb1.keeps hbk
  have hK := I1.kIn
  obtain ⟨hp, g, dr, tk, os⟩ := s1
  have kk : ∀ b o, hp.get? b = some o → ((hp.push (PySem.W.kdv_tup [u])).push (PySem.HandSPX.excO C hp.objs.size)).get? b = some o := fun b o e => Heap.get?_push_of_some _ (Heap.get?_push_of_some _ e)
  have hget : ((hp.push (PySem.W.kdv_tup [u])).push (PySem.HandSPX.excO C hp.objs.size)).get? (hp.objs.size + 1) = some (PySem.HandSPX.excO C hp.objs.size) := by
    have := Heap.get?_push_size (o := PySem.HandSPX.excO C hp.objs.size) (hp.push (PySem.W.kdv_tup [u])) rfl
    rwa [Heap.size_push] at this
  have hxk : X.K.lookup (hp.objs.size + 1) = none := by
    cases e : X.K.lookup (hp.objs.size + 1) with
    | none => rfl
    | some o => exact absurd (Heap.lt_size (hK _ _ e)) (Nat.not_lt_of_le (Nat.le_succ _))
  have hxn : hp.get? (hp.objs.size + 1) = none := by
    cases e : hp.get? (hp.objs.size + 1) with
    | none => rfl
    | some o => exact absurd (Heap.lt_size e) (Nat.not_lt_of_le (Nat.le_succ _))
  refine wpAny_call (PySem.HandSPX.call_own T.FB hT hC (PySem.W.looks_findIn hK T.ini) (fun self => PySem.W.bind_fn hK self T.tyI) (by show 1 ≤ sizeLine; decide) ?_)
  refine exc_run T X2 (hK.keeps kk) (hlim.keeps kk) (hglob.keeps kk) (hblt.keeps kk) hms ((hb2 "super" (by decide)).trans (by decide +kernel)) (Room.make hr C [u] []).depth hget hxk fun s' t1 d k4 eg eo hd hx4 hn4 => ⟨rfl, ?_⟩
  obtain ⟨h4, g4, d4, t4, os4⟩ := s'
  obtain rfl : g4 = g := eg
  obtain rfl : os4 = os := eo
  have hd' : hp.objs.size + 2 ≤ d := by
    replace hd : ((hp.push (PySem.W.kdv_tup [u])).push (PySem.HandSPX.excO C hp.objs.size)).objs.size ≤ d := hd
    have e : ((hp.push (PySem.W.kdv_tup [u])).push (PySem.HandSPX.excO C hp.objs.size)).objs.size = hp.objs.size + 2 := by rw [Heap.size_push, Heap.size_push]
    rw [← e]; exact hd
  have hda : d ≠ hp.objs.size + 1 := by omega
  obtain ⟨G, g1', g2'⟩ := restrict h4 fun b => decide (b ≠ hp.objs.size + 1)
  have gk : ∀ b, b ≠ hp.objs.size + 1 → G.get? b = h4.get? b := fun b hb => g1' b (decide_eq_true hb)
  have ge : G.get? (hp.objs.size + 1) = none := g2' _ (by simp)
  have nha : ∀ {b : Addr} {o : Obj}, hp.get? b = some o → b ≠ hp.objs.size + 1 := fun {b o} z => Nat.ne_of_lt (Nat.lt_of_lt_of_le (Heap.lt_size z) (Nat.le_succ _))
  have rel : ∀ f, RelO (([(fld, y)] : List (Str × V)).lookup f) (if f = fld then some u else none) := relO_put (fs := []) (mA := fun _ => none) ry fun g => True.intro
  have J : Inv X pins σ (upd H1 d (.xd [(fld, y)])) ⟨G, g4, d4, t4, os4⟩ := by
    refine I1.call (ch := []) (h' := G) (g' := g4) (d' := d4) (t' := t4) (Un.laid (fun b o z => (gk b (nha z)).trans (k4 b o (nha z) (kk b o z))) (by show hp.objs.size ≤ d; omega) (I1.hok.fresh (by show hp.objs.size ≤ d; omega))) (I1.hok.laid (fun b o z => (gk b (nha z)).trans (k4 b o (nha z) (kk b o z))) (by show hp.objs.size ≤ d; omega) ?_) I1.bare fun _ z => nomatch z
    exact ⟨_, hn4.at fun o z => (gk d hda).trans z, rel⟩
  have na : upd H1 d (.xd [(fld, y)]) (hp.objs.size + 1) = none := by
    rw [upd_ne (Ne.symm hda)]; exact I1.hok.fresh (Nat.le_succ _)
  refine ⟨hp.objs.size + 1, _, _, ⟨G, g4, d4, t4, os4⟩, _, .ref C, some d, rfl, J, fun b o z => ?_, ge, hx4, ⟨rfl, rfl⟩, rfl, rfl, na, rfl, I1.bare, raises_own T.exC T.tyC, q1 d (I1.hok.fresh (by show hp.objs.size ≤ d; omega))⟩
  by_cases hb : b = hp.objs.size + 1
  · rw [hb, ge] at z; cases z
  · exact (gk b hb).symm.trans z
/-- raise C(e) -/
def sRaise (c : Nat) (fld : Str) (f : DE) : DS := fun ρ u => thenS (f ρ u) ρ fun d u => .ex c [(fld, d)] ρ u
theorem psd_raise {X : Cx} {ct : Nat → Addr} {E : St → XK} {c : Nat} {fI cc cda : Addr} {qual par fld : Str} {st : Stmt} {B newId initId : String} {bmB : List Value} {x : Str} {p pos pos2 : Pos} {e : Expr} {f : DE} (T : ExC X.prog X.K (ct c) fI cc cda qual par fld st B newId initId bmB) (X2 : ExT qual par fld st) (hms : X.mg "super" = none) (hr : Room 1 X.A)
    (hc : X.calm = true) (tk : Takes X (fun cls d σ H => E σ cls d H)) (hg : Gl X x) (hm : X.mg x = some (.ref (ct c))) (he : PD X ct E e f) (hdb : (x == ("__debug__" : Str)) = false := by decide) (hst : starEach [e] X.env = (false, eval e X.env) :: starEach [] X.env := by rfl) (hpl : (backTo pos (starEach [] X.env)).any (·.1) = false := by rfl) :
    PSD X ct E (.Raise (some (.Call (.Name x p) [e] [] pos)) none pos2) (sRaise c fld f) := by
  refine PS.imp (ps_raise hc tk (pmk_ex T X2 hms hr hg hm he hdb hst hpl)) fun D σ H ⟨ua, F, ρ, u, O, P, R, o, q⟩ => ?_
  refine tS_bind R o q fun F1 v H1 x u1 s R1 r q1 => fun d hd => ?_
  have b2 := stp_over (o := .xd [(fld, v)]) R1.toBs hd
  have hu : Urn ua u1 (upd H1 d (.xd [(fld, v)])) := by
    show upd _ _ _ ua = _
    rw [upd_ne (ne_of_none R1.urn hd)]; exact R1.urn
  exact q1 F1 _ σ d [(fld, v)] b2.s (R1.step b2 hu) (fun b z => .inl (o b z)) upd_same hd (fresh_back R1.ex hd) rfl (.cons r .nil)
end Dl
set_option Elab.async false
set_option linter.all false
set_option maxRecDepth 100000
set_option maxHeartbeats 4000000
/-! DlTry: except (A, B, ..) as error. -/
namespace PySem.W
open PySem PySem.Spec PySem.Calls PyProof.Rows
section
variable {M : Model} {K : Frag}
theorem exm_all {cls : Value} {h : Heap} (X : K.In h) : ∀ {cs : List Value} {b : Bool}, exmAny K cls cs = some b → ∀ {A : Around} {E : Value → Shared → Prop} {s : Shared} {Q : PUnit → Shared → Prop}, (∀ b o, h.get? b = some o → s.heap.get? b = some o) → Q ⟨⟩ s →
    wpAny M A (forIn cs PUnit.unit fun c _ => do
      if (!(← isExcClass c)) = true then
        rule "try.except-non-exception-class"
        raiseErrorWords "TypeError" "catching classes that do not inherit from BaseException is not allowed"
        pure (ForInStep.yield PUnit.unit)
      else pure (ForInStep.yield PUnit.unit)) Q E s
  | [], _, _, _, _, _, _, _, q => wpAny_pure q
  | c :: cs, b, e, A, E, s, Q, k, q => by
    obtain ⟨b1, d1, x1, y1, _⟩ := exmAny_cons e
    obtain ⟨e1, _⟩ := exm_cls (M := M) X x1
    rw [List.forIn_cons]
    refine wpAny_bind (wpAny_bind ((e1.keeps k).here ?_))
    rw [if_neg (by decide)]
    exact wpAny_pure (exm_all X y1 k q)
theorem exm_find {cls : Value} {h : Heap} (X : K.In h) : ∀ {cs : List Value} {b : Bool}, exmAny K cls cs = some b → ∀ {A : Around} {E : Value → Shared → Prop} {s : Shared} {Q : Option Bool × Unit → Shared → Prop}, (∀ b o, h.get? b = some o → s.heap.get? b = some o) → Q (if b = true then some true else none, ()) s →
    wpAny M A (forIn cs ((none, ()) : Option Bool × Unit) fun c _ => do
      if (← isSubtype cls c) = true then pure (ForInStep.done (some true, ())) else pure (ForInStep.yield (none, ()))) Q E s
  | [], b, e, _, _, _, _, _, q => by
    cases e
    exact wpAny_pure q
  | c :: cs, b, e, A, E, s, Q, k, q => by
    obtain ⟨b1, d1, x1, y1, z1⟩ := exmAny_cons e
    obtain ⟨_, S1⟩ := exm_cls (M := M) X x1
    rw [List.forIn_cons]
    refine wpAny_bind (wpAny_bind ((S1.keeps k).here ?_))
    cases b1 with
    | true =>
      rw [if_pos rfl]
      refine wpAny_pure (wpAny_pure ?_)
      subst z1
      exact q
    | false =>
      rw [if_neg Bool.false_ne_true]
      refine wpAny_pure (exm_find X y1 k ?_)
      subst z1
      simpa using q
theorem exm_tupN {cs : List Value} {cls : Value} {tp e : Addr} {b : Bool} {h : Heap} (X : K.In h) (LT : Looks M h (typeOf (.ref e)) cls) (hp : h.get? tp = some { cls := .type "tuple", data := .seq cs.toArray }) (hx : exmAny K cls cs = some b) :
    Looks M h (excMatches (.ref e) (.ref tp)) b := by
  intro A Q E s k₀ q
  have k : ∀ b o, h.get? b = some o → s.heap.get? b = some o := k₀
  have LT0 : Looks M h (isInstance (.ref tp) (.type "tuple")) true := ((Looks.ld hp).andThen .now).andThen (Looks.of_pure isSubtype_tuple_tuple)
  have hp' := k _ _ hp
  unfold excMatches
  refine wpAny_bind ((LT0.keeps k).here ?_)
  dsimp only
  rw [if_pos rfl]
  first
    | refine wpAny_bind (wpAny_seqItems hp' rfl ?_)
    | refine wpAny_bind (wpAny_bind (wpAny_seqItems hp' rfl (wpAny_pure ?_)))
  dsimp only [Option.getD_some, Option.getD]
  refine wpAny_bind ?_
  refine wpAny_pure (wpAny_bind (exm_all X hx k ?_))
  refine wpAny_bind ((LT.keeps k).here ?_)
  refine wpAny_bind (exm_find X hx k ?_)
  cases b with
  | true => exact wpAny_pure q
  | false => exact wpAny_pure q
end
end PySem.W

namespace Dl
open PySem L2 Evl
section
variable {X : Cx} {pins : List (Addr × Obj)} {σ : L2.St} {H : Hp} {s : Shared}
/-- an object that stands, tracked from now on -/
theorem Inv.track {a : Addr} {o : HO} {oe : Obj} (I : Inv X pins σ H s) (ha : s.heap.get? a = some oe) (hn : H a = none) (n0 : X.s_0.heap.get? a = none) (nL : a ≠ X.env.locals) (nc : ∀ v, oe.data ≠ .cell v) (np : ∀ p ∈ X.pn ++ pins, p.1 ≠ a)
    (new : ObjOk X.prog X.w (upd H a o) s.heap a o) : Inv X pins σ (upd H a o) s where
  ok := I.ok
  os := I.os
  bare := I.bare
  base :=
    { keep := I.base.keep
      slot := I.base.slot
      free := fun b ob e n hx => by rw [upd_ne (fun z => by rw [z, n0] at e; cases e)]; exact I.base.free b ob e n hx
      there := I.base.there
      tups := fun b xs e => by have q := I.base.tups b xs e; rw [upd_ne (ne_of_none q hn)]; exact q
      frzs := fun b ob u e => by have q := I.base.frzs b ob u e; rw [upd_ne (ne_of_none q hn)]; exact q
      tbls := fun b ps e => by obtain ⟨m, q⟩ := I.base.tbls b ps e; exact ⟨m, by rw [upd_ne (ne_of_none q hn)]; exact q⟩ }
  loc := I.loc
  cell := I.cell
  free := by rw [upd_ne (Ne.symm nL)]; exact I.free
  freeC := fun x c e => by
    rw [upd_ne (fun z => ?_)]
    · exact I.freeC x c e
    · obtain ⟨v, ob, e1, e2⟩ := I.cell x c e
      rw [z, ha] at e1; cases e1
      exact nc v e2
  pin := fun p hp => by
    obtain ⟨e, n, r⟩ := I.pin p hp
    exact ⟨e, by rw [upd_ne (np p hp)]; exact n, r⟩
  hok := fun b ob e => by
    by_cases hb : b = a
    · subst hb
      rw [upd_same] at e; cases e
      exact new
    · rw [upd_ne hb] at e
      exact (I.hok b ob e).stay (fun c v _ q => q) (fun c q => by rw [upd_ne (ne_of_none q hn)]; exact q) fun c xs q => by rw [upd_ne (ne_of_none q hn)]; exact q
  len := I.len
theorem exV_ok {P : Program} {w : World} {h : Heap} {a dd : Addr} {cls : Value} {oe : Obj} {vs : Array Value} (e : h.get? a = some oe) (z : Zc cls (some dd) oe) (d : oe.data = .fields vs) : ObjOk P w H h a (exV cls dd a) :=
  ⟨⟨oe, vs, e, z, d⟩, ⟨oe, e⟩, fun _ _ ⟨o, v, q, r⟩ k => ⟨o, v, k o q, r⟩⟩
end
theorem traced_keeps {B h h' : Heap} {a : Addr} {Z : Obj → Prop} {v : Value} (x : HandSPX.TracedZ h B a Z v) (k : ∀ b o, h.get? b = some o → h'.get? b = some o) : HandSPX.TracedZ h' B a Z v := by
  obtain ⟨oe, vs, T, oT, ts, h1, h2, h3, h4, h5, h6, h7, h8⟩ := x
  exact ⟨oe, vs, T, oT, ts, k _ _ h1, h2, h3, h4, h5, h6, k _ _ h7, h8⟩
theorem flying_keepsZ {B h h' : Heap} {l : List Env} {a : Addr} {Z : Obj → Prop} (x : HandSPX.FlyingZ B l a Z h) (k : ∀ b o, h.get? b = some o → h'.get? b = some o) : HandSPX.FlyingZ B l a Z h' :=
  ⟨fun b o q => k b o (x.1 b o q), x.2.1, x.2.2.1.of_keeps fun b o q _ => ⟨o, k b o q, rfl⟩, traced_keeps x.2.2.2 k⟩
/-- what an except clause names: a class, or a tuple of them -/
def TstE (X : Cx) (T : Expr) (cs : List Value) : Prop := ∀ (a : Addr) (pn pins : List (Addr × Obj)) (σ : L2.St) (H : Hp) (s : Shared) (cls : Value) (b : Bool) (Q : Value → Shared → Prop) (E : Value → Shared → Prop), Inv (X.suite a pn) pins σ H s → PySem.W.exmAny X.K cls cs = some b → PySem.W.Looks (model X.prog X.w) s.heap (typeOf (.ref a)) cls →
  (∀ v h', (∀ b o, s.heap.get? b = some o → h'.get? b = some o) → PySem.W.Looks (model X.prog X.w) h' (excMatches (.ref a) v) b → Q v { s with heap := h' }) → wpAny (model X.prog X.w) (X.A.mark (some (.ref a))) (eval T X.env) Q E s
theorem tst_one {X : Cx} {x : Str} {c : Value} {np : Pos} (hc : Names X x c) : TstE X (.Name x np) [c] := by
  intro a pn pins σ H s cls b Q E I e LT q
  obtain ⟨b1, d1, x1, y1, z1⟩ := PySem.W.exmAny_cons e
  cases y1
  rw [Bool.or_false] at z1
  subst z1
  have LM := PySem.W.exm_one (M := model X.prog X.w) I.kIn LT x1
  have q1 := q c s.heap (fun _ _ z => z) LM
  obtain ⟨hg, hdbg, hm | ⟨hm, hv, hnn⟩⟩ := hc
  · exact ld_glob (X := X.suite a pn) I hg hm q1 hdbg
  · exact ld_blt (X := X.suite a pn) I hg hm hv q1 hnn hdbg
inductive AllN (X : Cx) : List Expr → List Value → Prop
  | nil : AllN X [] []
  | cons {x : Str} {c : Value} {np : Pos} {es : List Expr} {cs : List Value} : Names X x c → starEach (.Name x np :: es) X.env = (false, eval (.Name x np) X.env) :: starEach es X.env → AllN X es cs → AllN X (.Name x np :: es) (c :: cs)
theorem all_n {X : Cx} {es : List Expr} {cs : List Value} (h : AllN X es cs) : ∀ {a : Addr} {pn pins : List (Addr × Obj)} {σ : L2.St} {H : Hp} {s : Shared} {pos : Pos} {Q : List Value → Shared → Prop} {E : Value → Shared → Prop}, Inv (X.suite a pn) pins σ H s → Q cs s → wpAny (model X.prog X.w) (X.A.mark (some (.ref a))) (spliced (backTo pos (starEach es X.env))) Q E s := by
  induction h with
  | nil => intro a pn pins σ H s pos Q E I q; exact wpAny_items_nil q
  | @cons x c np es cs hc hst _ ih =>
    intro a pn pins σ H s pos Q E I q
    refine wpAny_items_cons ?_ hst
    have q1 : wpAny (model X.prog X.w) (X.A.mark (some (.ref a))) (spliced (backTo pos (starEach es X.env))) (fun vs s₂ => Q (c :: vs) s₂) E s := ih I q
    obtain ⟨hg, hdbg, hm | ⟨hm, hv, hnn⟩⟩ := hc
    · exact ld_glob (X := X.suite a pn) I hg hm q1 hdbg
    · exact ld_blt (X := X.suite a pn) I hg hm hv q1 hnn hdbg
theorem tst_tup {X : Cx} {es : List Expr} {cs : List Value} {kk : Nat} {tpos : Pos} (h : AllN X es cs) (hl : cs.length ≤ 1000) : TstE X (.Tuple es kk tpos) cs := by
  intro a pn pins σ H s cls b Q E I e LT q
  refine wpAny_Tuple (all_n h I ⟨by rw [sizeLine_eq]; omega, ?_⟩)
  have kp : ∀ b o, s.heap.get? b = some o → (s.heap.push { cls := .type "tuple", data := .seq cs.toArray }).get? b = some o := fun _ _ z => Heap.get?_push_of_some _ z
  exact q _ _ kp (PySem.W.exm_tupN (I.kIn.keeps kp) (LT.keeps kp) (Heap.get?_push_size s.heap rfl) e)
/-- what the clause 'except .. as n: y = n' wishes of an exception of the body -/
def wTr (K : PySem.W.Frag) (cs : List Value) (i iy : Nat) (Wout : WX) (D : Ends) : WX := fun cls d σ H =>
  ∃ b, PySem.W.exmAny K cls cs = some b ∧ (b = true → ∃ dd, d = some dd ∧ ∀ a, H a = none → D.nx (((σ.set i (some (.ref a))).set iy (some (.ref a))).set i none) (upd H a (exV cls dd a))) ∧ (b = false → Wout cls d σ H)
section
variable {X : Cx} {T : Expr} {n y : Str} {cs : List Value} {i iy : Nat} {body : List Stmt} {np py pn0 ap pos pos' : Pos} {tb : WX → TS} {Wout : WX}
theorem ps_try_tr (hs : X.stack = X.env :: X.outer) (hf : X.env.frame = some X.env.locals) (hex : X.ex = []) (hN : X.N.Nodup) (hi : X.N[i]? = some n) (hln : X.env.kindOf n = some .local) (hiy : X.N[iy]? = some y) (hly : Loc X.env.scope y) (hfy : X.fn y = true ∨ X.env.scope.names.lookup y = some .local)
    (hdn : (n == ("__debug__" : Str)) = false) (hcd : (n == ("__classdict__" : Str)) = false) (hc : TstE X T cs) (tk : Takes X Wout) (hsw : swapsWith (.Name n pn0) (some (.Name y py)) ap.line X.env = pure false)
    (hb : ∀ (W : WX) (pn : List (Addr × Obj)) (xe : Value → Shared → Prop), Takes (X.tr pn xe) W → PassesOwn (model X.prog X.w) X.A X.env xe → PSs (X.tr pn xe) body (tb W)) :
    PS X (.Try body [.ExceptHandler (some T) (some n) [.Assign [.Name y py] (.Name n pn0) ap] pos'] [] [] pos) (fun D σ H => tb (wTr X.K cs i iy Wout D) D σ H) := by
  refine ⟨fun pins s σ H D I h => ?_⟩
  have ok := I.ok
  have hfr : X.A.frames = some (X.env :: X.outer) := by rw [ok.frames, hs]
  have hloc : Loc X.env.scope n := .inl hln
  refine wpAny_Try_except ?_
  refine wpAny_mono ((hb (wTr X.K cs i iy Wout D) (X.pn ++ pins) (fun e s₁ => wpAny (model X.prog X.w) X.A (noteFrame e X.env) (fun _ s₂ => wpAny (model X.prog X.w) X.A (setFlight e none) (fun _ s₃ =>
    wpAny (model X.prog X.w) X.A (handleBy e X.env [.ExceptHandler (some T) (some n) [.Assign [.Name y py] (.Name n pn0) ap] pos']) (SP X pins D) X.xe s₃) X.xe s₂) X.xe s₁) (fun u s' xx => ?_) PassesOwn.looking).run [] s σ H D (I.toTry _) h) (fun f s1 hsp => ?_) (fun e s1 he => he)
  · -- the catch
    obtain ⟨a, B, sI, pins', σ', H', cls, d, rfl, J', nb, up, sky, na, os, ag, b, hb1, hyes, hno⟩ := xx
    have J : Inv X pins σ' H' sI := J'.ofTry ok
    have sky' : Sky B (X.env :: X.outer) a (Zc cls d) X.env.locals s'.heap := by rw [← hs]; exact sky
    show wpAny (model X.prog X.w) X.A (noteFrame (.ref a) X.env) _ _ _
    refine Sky.land Zc.steady hfr hf sky' fun h3 fl3 up3 => ?_
    have J3 : Inv X pins σ' H' { s' with heap := h3 } := J.landed nb fl3.1 (up.trans up3) os ag
    obtain ⟨oe3, vs3, he3, hz3, hd3⟩ := fl3.there
    have notFr : ∀ {h : Heap} {o : Obj} {vs : Array Value}, h.FunFrames B (X.env :: X.outer) → h.get? a = some o → o.data = .fields vs → a ∉ frs (X.env :: X.outer) := fun {h o vs} ff e dd hm => by
      obtain ⟨_, o', e', hnf⟩ := ff.mem hm
      rw [e] at e'; cases e'
      exact hnf _ dd
    have nfr := notFr fl3.2.2.1 he3 hd3
    have nL : a ≠ X.env.locals := fun z => nfr (List.mem_filterMap.mpr ⟨X.env, List.mem_cons_self, by rw [hf, z]⟩)
    have nF : a ∉ X.fs := fun hm => by
      obtain ⟨e, he, q⟩ := List.mem_filterMap.mp hm
      exact nfr (List.mem_filterMap.mpr ⟨e, List.mem_cons_of_mem _ he, q⟩)
    have nB := fl3.2.1
    have nI : sI.heap.get? a = none := by
      cases e : sI.heap.get? a with
      | none => rfl
      | some o =>
        have z := nb a o e (by rw [hs]; exact nfr)
        rw [nB] at z; cases z
    have n0 : X.s_0.heap.get? a = none := by
      cases e : X.s_0.heap.get? a with
      | none => rfl
      | some o =>
        obtain ⟨o', z⟩ := J.base.there a o e (by rw [hex]; exact fun z => nomatch z)
        rw [nI] at z; cases z
    have np' : ∀ p ∈ X.pn ++ pins, p.1 ≠ a := fun p hp z => by
      have q := (J.pin p hp).1
      rw [z, nI] at q; cases q
    have S3 := J3.suite he3 hd3 na nL nF
    refine wpAny_handleBy_cons (codeAny_handlers_test ?_) (by intro q; cases q)
    have LT : PySem.W.Looks (model X.prog X.w) h3 (typeOf (.ref a)) cls := fun A Q E s k q => wpAny_typeOf_ref (k _ _ he3) (by rw [hz3.1]; exact q)
    refine hc a _ [] _ _ { s' with heap := h3 } cls b _ _ S3 hb1 LT fun v h3' kp LM => ?_
    refine LM.here ?_
    have fl3' : HandSPX.FlyingZ B (X.env :: X.outer) a (Zc cls d) h3' := flying_keepsZ fl3 kp
    have up3' : s'.heap.UpToSlots h3' := up3.trans (Heap.UpToSlots.of_keeps kp)
    cases b with
    | true =>
      refine codeAny_handlers_suite_as ?_
      refine HandSPX.lands_againZ (s := { s' with heap := h3' }) fl3' fun h4 fl4 up4 => ?_
      have J4 : Inv X pins σ' H' { s' with heap := h4 } := J.landed nb fl4.1 ((up.trans up3').trans up4) os ag
      obtain ⟨oe4, vs4, he4, hz4, hd4⟩ := fl4.there
      have S4 := J4.suite he4 hd4 na nL nF
      refine store_ok (X := X.suite a ((a, oe4) :: (X.pn ++ pins))) (v := .ref a) S4 hN hi hloc rfl (fun s5 S5 => ?_) (.inr hln)
      have hlen : i < σ'.length := by
        have := (List.getElem?_eq_some_iff.mp hi).1
        rw [J.len]; exact this
      have ps : PSs (X.suite a ((a, oe4) :: (X.pn ++ pins))) [.Assign [.Name y py] (.Name n pn0) ap] (tAsg (tVar i) (gName iy)) := pss_one (ps_set hN hiy hly (pe_var hi (Or.inl hln) hdn hcd) hsw hfy)
      refine wpAny_mono (ps.run [] s5 _ H' { nx := fun σ6 H6 => σ6 = (σ'.set i (some (.ref a))).set iy (some (.ref a)) ∧ H6 = H', rt := fun _ _ => False } S5 ⟨.ref a, List.getElem?_set_self hlen, rfl, rfl⟩) (fun f s6 hsp => ?_) (fun _ _ z => False.elim z)
      cases f with
      | next =>
        obtain ⟨σ6, H6, S6, rfl, rfl⟩ := hsp
        refine gone_ok (X := X.suite a ((a, oe4) :: (X.pn ++ pins))) S6 hN hi hln fun s7 S7 => ?_
        obtain ⟨ha7, _⟩ := S7.pin (a, oe4) (List.mem_append_left _ List.mem_cons_self)
        have J7 := S7.unsuite ok
        obtain ⟨dd, rfl, q⟩ := hyes rfl
        exact ⟨_, _, Inv.track J7 ha7 na n0 nL (fun v z => by rw [hd4] at z; cases z) np' (exV_ok ha7 hz4 hd4), q a na⟩
      | brk =>
        obtain ⟨_, _, _, z⟩ := hsp
        exact z.elim
      | cont =>
        obtain ⟨_, _, _, z⟩ := hsp
        exact z.elim
      | ret u =>
        obtain ⟨_, _, _, _, _, z⟩ := hsp
        exact z.elim
    | false =>
      show wpAny _ X.A (handleBy (.ref a) X.env []) _ _ _
      refine wpAny_handleBy_nil ?_
      obtain ⟨k1, k2, k3, oe, vs, T, oT, ts', he, hz, hd, h1, hr⟩ := id fl3'
      unfold PySem.passOn
      refine wpAny_bind (wpAny_field he hd h1 ?_)
      rw [if_neg (show ¬ ((Value.ref T == Value.none) = true) from by simp)]
      have fin : wpAny (model X.prog X.w) X.A (setFlight (.ref a) X.env.frame) (fun _ s4 => wpAny (model X.prog X.w) X.A (throw (.ref a) : Sem Flow) (SP X pins D) X.xe s4) X.xe { s' with heap := h3' } := by
        rw [hf]
        refine HandSPX.setFlight_upZ (s := { s' with heap := h3' }) fl3' fun h4 hh4 up4 => wpAny_throw (tk _ _ ?_)
        exact ⟨a, B, sI, pins, σ', H', cls, d, rfl, J, nb, (up.trans up3').trans up4, .inr (.inr (by rw [hs]; exact hh4)), na, os, ag, hno rfl⟩
      first
        | exact wpAny_bind (wpAny_pure (wpAny_bind fin))
        | exact wpAny_bind fin
  · cases f with
    | next =>
      obtain ⟨σ', H', J', q⟩ := hsp
      exact wpAny_execs_nil ⟨σ', H', J'.ofTry ok, q⟩
    | brk =>
      obtain ⟨σ', H', J', q⟩ := hsp
      exact ⟨σ', H', J'.ofTry ok, q⟩
    | cont =>
      obtain ⟨σ', H', J', q⟩ := hsp
      exact ⟨σ', H', J'.ofTry ok, q⟩
    | ret u =>
      obtain ⟨v, σ', H', J', r, q⟩ := hsp
      exact ⟨v, σ', H', J'.ofTry ok, r, q⟩
end
theorem RS.setn {K : PySem.W.Frag} {ct : Nat → Addr} {P : Addr → Prop} {ua : Addr} {F H : Hp} {ρ : En} {u : U} {σ : L2.St} {i : Nat} (R : RS K ct P ua F ρ u σ H) : RS K ct P ua F (ρ.set i .no) u (σ.set i none) H ∧ ∀ b, Own (ρ.set i .no) (σ.set i none) b → Own ρ σ b := by
  have ne : ∀ (j : Nat) (d : D), (ρ.set i .no)[j]? = some (.own d) → i ≠ j := fun j d h1 e => by
    subst e
    have hl : i < ρ.length := by
      have := (List.getElem?_eq_some_iff.mp h1).1
      simpa using this
    rw [List.getElem?_set_self hl] at h1
    cases h1
  refine ⟨⟨R.toRE.setn, fun j k d e a h1 h2 h3 h4 => ?_, fun j c gs a h1 h2 => ?_⟩, fun b ⟨j, d, h1, h2⟩ => ?_⟩
  · have n1 := ne j d h1
    have n2 := ne k e h2
    rw [List.getElem?_set_ne n1] at h1 h3
    rw [List.getElem?_set_ne n2] at h2 h4
    exact R.sep j k d e a h1 h2 h3 h4
  · have n1 := ne j _ h1
    rw [List.getElem?_set_ne n1] at h1 h2
    exact R.obj j c gs a h1 h2
  · have n1 := ne j _ h1
    rw [List.getElem?_set_ne n1] at h1 h2
    exact ⟨j, d, h1, h2⟩
theorem own_xd {K : PySem.W.Frag} {ct : Nat → Addr} {ua : Addr} {F H : Hp} {a : Addr} {d : D} (h : OwnAt K ct ua F H a d) (fs : List (Str × V)) : H a ≠ some (.xd fs) := fun z => by
  cases d <;> first
    | exact (show False from h).elim
    | (obtain ⟨_, z2, _⟩ := h; rw [z] at z2; cases z2)
    | (obtain ⟨_, _, z2, _⟩ := h; rw [z] at z2; cases z2)
/-- try: body, except T as n: y = n -/
def sTry (tst : Nat → Option Bool) (i iy : Nat) (f : DS) : DS := fun ρ u => match f ρ u with
  | .ex c gs ρ' u' => match tst c with
    | some true => .nx (((ρ'.set i .no).set iy (.val (.exc c gs))).set i .no) u'
    | some false => .ex c gs ρ' u'
    | none => .no
  | r => r
theorem psd_try {X : Cx} {ct : Nat → Addr} {E : L2.St → XK} {T : Expr} {n y : Str} {cs : List Value} {i iy : Nat} {body : List Stmt} {py pn0 ap pos pos' : Pos} {tst : Nat → Option Bool} {f : DS} (hs : X.stack = X.env :: X.outer) (hf : X.env.frame = some X.env.locals) (hex : X.ex = []) (hN : X.N.Nodup) (hi : X.N[i]? = some n) (hln : X.env.kindOf n = some .local) (hiy : X.N[iy]? = some y) (hly : Loc X.env.scope y) (hfy : X.fn y = true ∨ X.env.scope.names.lookup y = some .local)
    (hc : TstE X T cs) (tk : Takes X (fun cls d σ H => E σ cls d H)) (ht : ∀ c b, tst c = some b → PySem.W.exmAny X.K (.ref (ct c)) cs = some b)
    (hb : ∀ (E' : L2.St → XK) (pn : List (Addr × Obj)) (xe : Value → Shared → Prop), Takes (X.tr pn xe) (fun cls d σ H => E' σ cls d H) → PassesOwn (model X.prog X.w) X.A X.env xe → PSDs (X.tr pn xe) ct E' body f)
    (hdn : (n == ("__debug__" : Str)) = false := by decide) (hcd : (n == ("__classdict__" : Str)) = false := by decide) (hsw : swapsWith (.Name n pn0) (some (.Name y py)) ap.line X.env = pure false := by rfl) :
    PSD X ct E (.Try body [.ExceptHandler (some T) (some n) [.Assign [.Name y py] (.Name n pn0) ap] pos'] [] [] pos) (sTry tst i iy f) := by
  refine PS.imp (ps_try_tr (tb := fun W => tS X.K ct (fun σ cls d H => W cls d σ H) f) hs hf hex hN hi hln hiy hly hfy hdn hcd hc tk hsw fun W pn xe tk' pa => hb (fun σ cls d H => W cls d σ H) pn xe tk' pa) fun D σ H ⟨ua, F, ρ, u, O, P, R, o, q⟩ => ?_
  refine ⟨ua, F, ρ, u, O, P, R, o, ?_⟩
  unfold sTry at q
  cases e : f ρ u with
  | nx ρ' u' => rw [e] at q; exact q
  | rt d u' => rw [e] at q; exact q
  | bk ρ' u' => rw [e] at q; exact q
  | ct ρ' u' => rw [e] at q; exact q
  | no => rw [e] at q; exact q
  | ex c gs ρ' u' =>
    rw [e] at q
    dsimp only at q
    intro F' H' σ' dd fs s R' o' hd h0 hf' k r
    cases et : tst c with
    | none => rw [et] at q; exact (show False from q).elim
    | some b =>
      refine ⟨b, ht c b et, fun hb1 => ?_, fun hb0 => ?_⟩
      · subst hb1
        rw [et] at q
        dsimp only at q
        refine ⟨dd, rfl, fun a ha => ?_⟩
        have ndu : dd ≠ ua := fun z => by rw [z, R'.urn] at hd; cases hd
        have nau : a ≠ ua := fun z => by rw [z, R'.urn] at ha; cases ha
        have nda : dd ≠ a := fun z => by rw [z, ha] at hd; cases hd
        -- the dict and the exception join what stays
        have ex2 : Ex F' (upd F' dd (.xd fs)) := Ex.new hf'
        have R2 : RS X.K ct P ua (upd F' dd (.xd fs)) ρ' u' σ' H' :=
          { ex := fun b o h => by
              by_cases e : b = dd
              · rw [e, upd_same] at h; rw [e, hd]; exact h
              · rw [upd_ne e] at h; exact R'.ex b o h
            urn := R'.urn
            fu := by rw [upd_ne (Ne.symm ndu)]; exact R'.fu
            len := R'.len
            vals := fun i d h => by
              obtain ⟨v, h1, h2⟩ := R'.vals i d h
              exact ⟨v, h1, h2.mono ex2⟩
            owns := fun i d h => by
              obtain ⟨b, h1, h2, h3, h4⟩ := R'.owns i d h
              refine ⟨b, h1, h2, ?_, OwnAt.mono ex2 (fun _ z => z) h4⟩
              rw [upd_ne (fun z => own_xd h4 fs (by rw [z]; exact hd))]; exact h3
            sep := R'.sep
            obj := R'.obj }
        have st2 := Stp.new (o := exV (.ref (ct c)) dd a) R2.toBs ha
        have b3 := Bs.new (o := exV (.ref (ct c)) dd a) R2.toBs ha
        have R3 := R2.step st2 b3.urn
        have hF3 : upd (upd F' dd (.xd fs)) a (exV (.ref (ct c)) dd a) dd = some (.xd fs) := by rw [upd_ne nda, upd_same]
        have rx : Rep X.K ct ua (upd (upd F' dd (.xd fs)) a (exV (.ref (ct c)) dd a)) (.ref a) (.exc c gs) := .exc upd_same hF3 k ((r.mono ex2).mono st2.exF)
        obtain ⟨R4, o4⟩ := R3.setn (i := i)
        have R5 := R4.setv (i := iy) rx
        obtain ⟨R6, o6⟩ := R5.setn (i := i)
        have ha0 : H a = none := s.back R'.urn ha
        have eσ : (((σ'.set i none).set iy (some (.ref a))).set i none) = (((σ'.set i (some (.ref a))).set iy (some (.ref a))).set i none) := by
          refine List.ext_getElem? fun j => ?_
          simp only [List.getElem?_set, List.length_set]
          by_cases e1 : i = j
          · simp [e1]
          · by_cases e2 : iy = j
            · simp [e1, e2]
            · simp [e1, e2]
        rw [eσ] at R6 o6
        refine q _ _ _ ⟨(s.exF.trans ex2).trans st2.exF, R6.ex, R6.fu, fun b o n no h => ?_, fun b o h => ?_, fun b o n h => ?_⟩ R6 fun b z => o' b (o4 b (own_set (fun _ h => by cases h) (o6 b z)))
        · have z := s.kp b o n no h
          rw [upd_ne (ne_of_none z ha)]; exact z
        · by_cases e : b = a
          · rw [e]; exact .inr (.inl ha0)
          · rw [upd_ne e] at h
            by_cases e2 : b = dd
            · rw [e2]; exact .inr (.inl h0)
            · rw [upd_ne e2] at h; exact s.fr b o h
        · obtain ⟨w, z⟩ := s.th b o n h
          exact ⟨w, by rw [upd_ne (ne_of_none z ha)]; exact z⟩
      · subst hb0
        rw [et] at q
        exact q F' H' σ' dd fs s R' o' hd h0 hf' k r
end Dl
set_option Elab.async false
set_option linter.all false
set_option maxRecDepth 100000
set_option maxHeartbeats 4000000
/-! Dl13: is, chained comparisons, texts' methods, starred items, an exception's field, isinstance. -/
namespace Dl
open PySem L2 Evl
section
variable {X : Cx} {ct : Nat → Addr} {E : L2.St → XK} {K : PySem.W.Frag}
theorem opr_is : OpR X (compareOp .Is) rIsX := op_isN.or op_isBl
theorem opr_isnot : OpR X (compareOp .IsNot) rIsNotX := op_notN.or op_notBl
/-! a < b < c -/
def chainK (o' : D → D → Option D) (h : DE) (ρ : En) (y : D) : D → M D
  | .bl true => bnd (h ρ) fun w => opt (o' y w)
  | .bl false => ret (.bl false)
  | _ => stuck
def dChain (o o' : D → D → Option D) (f g h : DE) : DE := fun ρ => bnd (f ρ) fun x => bnd (g ρ) fun y => bnd (opt (o x y)) (chainK o' h ρ y)
theorem pd_chain {op op' : CmpOp} {a b c : Expr} {pos : Pos} {r r' : R2} {o o' : D → D → Option D} {f g h : DE} (hr : OpR X (compareOp op) r) (hr' : OpR X (compareOp op') r') (ho : ROp X.K ct r o) (ho' : ROp X.K ct r' o') (ha : PD X ct E a f) (hb : PD X ct E b g) (hc : PD X ct E c h)
    (hm : lastMarks [op, op'] [b, c] = false := by with_unfolding_all rfl) : PD X ct E (.Compare a [op, op'] [b, c] pos) (dChain o o' f g h) := by
  refine PE.imp (pe_chain hr hr' ha hb hc hm) fun σ H Q ⟨ua, F, ρ, u, R, q⟩ => ?_
  refine tG_bind R q fun F1 v H1 x u1 s1 R1 r1 q1 => ?_
  refine tG_bind R1 q1 fun F2 w H2 y u2 s2 R2 r2 q2 => ?_
  cases hz : o x y with
  | none => rw [hz] at q2; exact (show False from q2).elim
  | some z =>
    refine ho ua F2 H2 u2 (fun _ _ _ => False) v w x y _ R2.toBs (r1.mono s2.exF) r2 ?_
    rw [hz] at q2 ⊢
    intro F3 v3 H3 s3 hu3 r3
    have R3 := R2.step s3 hu3
    have q3 := out.mono (r := chainK o' h ρ y z u2) R2.toBs q2 s3 hu3
    cases r3 <;> first | exact (show False from q3).elim | skip
    rename_i k
    refine ⟨k, rfl, ?_⟩
    cases k with
    | false => exact out.ret (u := u2) R3.toBs q3 (.bl false)
    | true =>
      rw [if_pos rfl]
      refine tG_bind R3 q3 fun F4 w4 H4 x4 u4 s4 R4 r4 q4 => ?_
      exact ho' ua F4 H4 u4 (E σ) w w4 y x4 Q R4.toBs ((r2.mono s3.exF).mono s4.exF) r4 q4
/-! a text's methods -/
def isS : D → Bool
  | .str _ => true
  | _ => false
def dSm (o : D → D → Option D) (f g : DE) : DE := fun ρ => bnd (f ρ) fun x => if isS x = true then bnd (g ρ) fun y => opt (o x y) else stuck
def RSm (K : PySem.W.Frag) (ct : Nat → Addr) (r : V → List V → Hp → VK → Prop) (o : D → D → Option D) : Prop := ∀ (ua : Addr) (F H : Hp) (u : U) (E : XK) (a : Str) (w : V) (y : D) (Q : VK), Bs ua F u H → Rep K ct ua F w y → out K ct (rD K ct) ua F H E (opt (o (.str a) y) u) Q → r (.str a) [w] H Q
theorem tM1_of {r : V → List V → Hp → VK → Prop} {o : D → D → Option D} {f g : DE} (ho : RSm K ct r o) : ∀ σ H Q, tG K ct (rD K ct) E (dSm o f g) σ H Q → tM1 r (tG K ct (rD K ct) E f) (tG K ct (rD K ct) E g) σ H Q := by
  rintro σ H Q ⟨ua, F, ρ, u, R, q⟩
  refine tG_bind R q fun F1 v H1 x u1 s1 R1 r1 q1 => ?_
  cases x <;> first | exact (show False from q1).elim | skip
  cases r1
  rename_i a
  refine ⟨⟨a, rfl⟩, ?_⟩
  have q1 : out K ct (rD K ct) ua F1 H1 (E σ) (bnd (g ρ) (fun y => opt (o (.str a) y)) u1) Q := q1
  exact tG_bind R1 q1 fun F2 w H2 y u2 s2 R2 r2 q2 => ho ua F2 H2 u2 (E σ) a w y Q R2.toBs r2 q2
def oSplit : D → D → Option D
  | .str a, .str b => if (b.length != 0) = true ∧ small (a.length + 2) = true then some (.lst ((Txt.split a b).map .str)) else none
  | _, _ => none
theorem pd_split {o e : Expr} {f g : DE} {apos pos : Pos} (ho : PD X ct E o f) (he : PD X ct E e g) (hs : starEach [e] X.env = [(false, eval e X.env)] := by rfl) (hbase : attributeBase o "split" X.env (eval o X.env) = eval o X.env := by rfl) (hline : (apos.endLine == pos.line) = true := by rfl) :
    PD X ct E (.Call (.Attribute o "split" apos) [e] [] pos) (dSm oSplit f g) := by
  refine PE.imp (pe_split ho he hs hbase hline) (tM1_of ?_)
  intro ua F H u E a w y Q b r q
  refine out_opt q fun d hd q2 => ?_
  cases r <;> first | (cases hd; done) | skip
  rename_i c
  have hd : (if (c.length != 0) = true ∧ small (a.length + 2) = true then some (D.lst ((Txt.split a c).map .str)) else none) = some d := hd
  split at hd
  · rename_i hc
    cases hd
    refine ⟨a, c, rfl, rfl, by have := hc.1; simpa using this, small_line hc.2, ?_⟩
    exact fun p hp => out.new b q2 hp (.lst upd_same (reps_strs _))
  · cases hd
def oJoin : D → D → Option D
  | .str a, .lst ds => (strsD ds).bind fun ys => chk (small ((ys.map (·.length)).sum + ys.length * a.length)) (.str (Txt.join a ys))
  | .str a, .tup ds => (strsD ds).bind fun ys => chk (small ((ys.map (·.length)).sum + ys.length * a.length)) (.str (Txt.join a ys))
  | _, _ => none
theorem pd_join {o e : Expr} {f g : DE} {apos pos : Pos} (ho : PD X ct E o f) (he : PD X ct E e g) (hs : starEach [e] X.env = [(false, eval e X.env)] := by rfl) (hbase : attributeBase o "join" X.env (eval o X.env) = eval o X.env := by rfl) (hline : (apos.endLine == pos.line) = true := by rfl) :
    PD X ct E (.Call (.Attribute o "join" apos) [e] [] pos) (dSm oJoin f g) := by
  refine PE.imp (pe_join ho he hs hbase hline) (tM1_of ?_)
  intro ua F H u E a w y Q b r q
  refine out_opt q fun d hd q2 => ?_
  have go : ∀ {p : Addr} {vs : List V} {ds : List D}, w = .ref p → Reps X.K ct ua F vs ds → (SqL X.K H p vs ∨ SqT X.K H p vs) → ((strsD ds).bind fun ys => chk (small ((ys.map (·.length)).sum + ys.length * a.length)) (D.str (Txt.join a ys))) = some d →
      ∃ a' p, ∃ ys : List Str, V.str a = .str a' ∧ [w] = [.ref p] ∧ (SqL X.K H p (ys.map V.str) ∨ SqT X.K H p (ys.map V.str)) ∧ (ys.map (·.length)).sum + ys.length * a'.length ≤ 16777216 ∧ Q (.str (Txt.join a' ys)) H := fun {p vs ds} ew rs hs hd => by
    cases e : strsD ds with
    | none => rw [e] at hd; cases hd
    | some ys =>
      rw [e] at hd
      obtain ⟨hl, rfl⟩ := chk_some hd
      have ev := strs_rep rs e
      rw [ev] at hs
      exact ⟨a, p, ys, rfl, by rw [ew], hs, Nat.le_trans (of_decide_eq_true hl) (by decide), out.ret b q2 (.str _)⟩
  cases y <;> first | (cases hd; done) | skip
  · cases r with | lst h1 h2 => exact go rfl h2 (.inl (sq_of (b.ex _ _ h1))) hd
  · cases r with | tup h1 h2 => exact go rfl h2 (.inr (ex_t b.ex h1)) hd
/-! [*a, ..] -/
def dStar (f : DE) (g : DA) : DA := fun ρ => bnd (f ρ) fun x => bnd (opt (itemsD x)) fun xs => bnd (g ρ) fun ys => ret (xs ++ ys)
theorem pda_star {e : Expr} {es : List Expr} {f : DE} {g : DA} {p : Pos} (he : PD X ct E e f) (hr : PDA X ct E es g) (hs : starEach (.Starred e p :: es) X.env = (true, eval e X.env) :: starEach es X.env := by rfl) : PDA X ct E (.Starred e p :: es) (dStar f g) := by
  refine PA.imp (StX.pa_star he hr hs) fun σ H Q ⟨ua, F, ρ, u, R, q⟩ => ?_
  refine tG_bind R q fun F1 v H1 x u1 s1 R1 r1 q1 => ?_
  cases hx : itemsD x with
  | none => rw [hx] at q1; exact (show False from q1).elim
  | some xs =>
    rw [hx] at q1
    have q1 : out X.K ct (rA X.K ct) ua F1 H1 (E σ) (bnd (g ρ) (fun ys => ret (xs ++ ys)) u1) Q := q1
    cases x <;> first | (cases hx; done) | skip
    · cases hx
      cases r1 with | lst h1 h2 =>
      refine ⟨_, _, rfl, .inr (sq_of (R1.ex _ _ h1)), ?_⟩
      exact tG_bind R1 q1 fun F2 ws H2 ys u2 s2 R2 r2 q2 => out.ret R2.toBs q2 ((h2.mono s2.exF).append r2)
    · cases hx
      cases r1 with | tup h1 h2 =>
      refine ⟨_, _, rfl, .inl (ex_t R1.ex h1), ?_⟩
      exact tG_bind R1 q1 fun F2 ws H2 ys u2 s2 R2 r2 q2 => out.ret R2.toBs q2 ((h2.mono s2.exF).append r2)
/-! an exception's field -/
def XfOk (K : PySem.W.Frag) (ct : Nat → Addr) (f : Str) (cs : List Nat) : Prop := ∀ c ∈ cs, XfC K (ct c) ∧ PySem.W.findIn K (.ref (ct c)) f = some none
def getX (f : Str) (cs : List Nat) : D → Option D
  | .exc c gs => if c ∈ cs then gs.lookup f else none
  | _ => none
def dXf (f : Str) (cs : List Nat) (g : DE) : DE := fun ρ => bnd (g ρ) fun x => opt (getX f cs x)
theorem getX_some {f : Str} {cs : List Nat} {x d : D} (h : getX f cs x = some d) : ∃ c gs, x = .exc c gs ∧ c ∈ cs ∧ gs.lookup f = some d := by
  cases x <;> first | (cases h; done) | skip
  unfold getX at h
  dsimp only at h
  split at h
  · rename_i hc; exact ⟨_, _, rfl, hc, h⟩
  · cases h
def tXfT (K : PySem.W.Frag) (f : Str) (te : TE) : TE := fun σ H Q => te σ H fun x H1 => ∃ a C dd fs v, x = .ref a ∧ H1 a = some (exV (.ref C) dd a) ∧ XfC K C ∧ PySem.W.findIn K (.ref C) f = some none ∧ H1 dd = some (.xd fs) ∧ fs.lookup f = some v ∧ Q v H1
theorem pe_xfT {e : Expr} {te : TE} {pos : Pos} {n : Str} (he : PE X e te) (hb : attributeBase e n X.env (eval e X.env) = eval e X.env := by rfl) : PE X (.Attribute e n pos) (tXfT X.K n te) := by
  refine ⟨fun pins s σ H Q I h => ?_⟩
  refine attr_of hb (thn (he.run pins s σ H _ I h) fun u s1 hh => ?_)
  obtain ⟨x, H1, I1, rx, a, C, dd, fs, v, ex, hex, T, hno, ea, l, q⟩ := hh
  subst ex
  obtain rfl : u = Value.ref a := rx
  obtain ⟨⟨oe, vs, ha, hz, hd⟩, _, _⟩ := (show ObjOk X.prog X.w H1 s1.heap a (exV (.ref C) dd a) from I1.hok a _ hex)
  have hx : ObjOk X.prog X.w H1 s1.heap dd (.xd fs) := I1.hok dd _ ea
  obtain ⟨mA, hns, hr⟩ := hx
  obtain ⟨od, ho, hl⟩ := lookIn_ns hns
  obtain ⟨u, hu, ru⟩ := RelO.some_of (v := v) (o := mA n) (by rw [← l]; exact hr n)
  have J : PySem.W.InstAt s1.heap a oe C (some od) := ⟨ha, hz.1, by unfold PySem.W.notCls; rw [hd] <;> rfl, by rw [hz.2]; exact ho⟩
  exact HandSPX.exc_get I1.kIn J T.ga T.gg T.exC (PySem.W.findObj_own T.hdC hno rfl (by rw [hl, hu])) (handed_of ru) ⟨v, H1, I1.tok _, ru, q⟩
theorem pd_xf {e : Expr} {f : Str} {cs : List Nat} {g : DE} {pos : Pos} (hk : XfOk X.K ct f cs) (he : PD X ct E e g) (hb : attributeBase e f X.env (eval e X.env) = eval e X.env := by rfl) : PD X ct E (.Attribute e f pos) (dXf f cs g) := by
  refine PE.imp (pe_xfT he hb) fun σ H Q ⟨ua, F, ρ, u, R, q⟩ => ?_
  refine tG_bind R q fun F1 v H1 x u1 s1 R1 r1 q1 => ?_
  refine out_opt q1 fun d hd q2 => ?_
  obtain ⟨c, gs, rfl, hc, hl⟩ := getX_some hd
  cases r1 with | exc h1 h2 h3 h4 =>
  obtain ⟨w, hw, rw'⟩ := fld_look h3 h4 hl
  obtain ⟨k1, k2⟩ := hk c hc
  exact ⟨_, ct c, _, _, w, rfl, R1.ex _ _ h1, k1, k2, R1.ex _ _ h2, hw, out.ret R1.toBs q2 rw'⟩
end
end Dl
set_option Elab.async false
set_option linter.all false
set_option maxRecDepth 100000
set_option maxHeartbeats 4000000
/-! Dl14: isinstance. -/
namespace DlI
open PySem PySem.W PySem.Spec PySem.Calls PyProof.Rows
section
variable {prog : Program} {w : World} {A : Around} {E : Value → Shared → Prop} {s : Shared} {K : Frag} {x D : Addr} {ox : Obj} {od : Option Obj}
theorem findObj_dataO {C : Addr} {name : Str} {a g : Value} (hc : (clsIn K C).isSome = true) (ha : findIn K (.ref C) name = some (some a)) (hg : specialIn K a "__get__" = some (some g)) (ht : takesIn K a = some true) : findObj K C od name = some (.bind g a) := by
  obtain ⟨cd, hc⟩ := Option.isSome_iff_exists.mp hc
  unfold findObj
  rw [hc, Option.bind_some, ha, Option.bind_some]
  simp [hg, ht]
theorem kin_classO (hga : findIn K (.ref D) "__getattribute__" = some (some (.builtin "BaseException.__getattribute__"))) (hgt : findIn K (.ref D) "__getattr__" = some none) (hsub : subIn K (.ref D) (.type "BaseException") = some true)
    (hdct : hasDictIn K D = true) (ha : findIn K (.ref D) "__class__" = some (some (.builtin "object.__class__")))
    (hn : specialIn K (.builtin "object.__class__") "__get__" = some (some (.builtin "getset_descriptor.__get__"))) (htk : takesIn K (.builtin "object.__class__") = some true) (hm : mroIn K D (.type "object") = some true)
    {Q : Option Value → Shared → Prop} (X : K.In s.heap) (I : InstAt s.heap x ox D od) (h : Q (some (.ref D)) { s with toks := s.toks + 1 }) : wpAny (model prog w) A (getAttr? (.ref x) "__class__") Q E s := by
  have hf : findObj K D od "__class__" = some (.bind (.builtin "getset_descriptor.__get__") (.builtin "object.__class__")) := findObj_dataO (by obtain ⟨cd, hc, _⟩ := any_some hdct; rw [hc]; rfl) ha hn htk
  obtain ⟨hp, g, d, t, os⟩ := s
  have L0 := I.type (M := model prog w)
  have L1 := looks_findIn (M := model prog w) X hga
  have L2 := looks_findIn (M := model prog w) X hgt
  have L3 := looks_find (M := model prog w) X I hf
  have sub : Looks (model prog w) hp (isInstance (.ref x) (.type "BaseException")) true := L0.andThen (looks_subIn X hsub)
  have hx0 : (false && onTheHeap (Value.builtin "BaseException.__getattribute__")) = false := rfl
  have hx2 : (Value.builtin "BaseException.__getattribute__" == Value.builtin "object.__getattribute__") = false := by decide +kernel
  have hx1 : (onTheHeap (Value.ref D) && Value.builtin "BaseException.__getattribute__" == Value.builtin "object.__getattribute__") = false := by rw [hx2]; rfl
  unfold getAttr? getAttrBy? getAttrBy
  refine wpAny_bind (wpAny_mkText (wpAny_bind (wpAny_attempt (wpAny_holding (wpAny_bind (L0.at (wpAny_bind (L1.at ?_))))))))
  show wpAny _ _ (if (onTheHeap (Value.ref D) && Value.builtin "BaseException.__getattribute__" == Value.builtin "object.__getattribute__") = true then _ else _) _ _ _
  rw [hx1, if_neg Bool.false_ne_true]
  unfold getAttrByItsOwn hookBefore
  refine wpAny_bind ?_
  rw [if_pos (show onTheHeap (Value.ref D) = true from rfl)]
  refine L2.at ?_
  refine wpAny_bind (wpAny_attempt (wpAny_holding ?_))
  unfold callGetattribute
  rw [hx0, if_neg Bool.false_ne_true]
  unfold boundAndCalled
  rw [PySem.F.excAttr_ValueError.ga.bind (.ref x)]
  refine wpAny_bind (wpAny_pure ?_)
  show wpAny _ _ (call (.builtin "BaseException.__getattribute__") [.ref x, .str "__class__" t]) _ _ _
  refine wpAny_call (codeAny_call_builtin PySem.F.excAttr_ValueError.ga.plain PySem.F.entry_bexc_ga ?_)
  refine @check_slot (model prog w) _ _ ⟨hp, g, d, t + 1, os⟩ "BaseException.__getattribute__" "BaseException" "__getattribute__" (.ref x) [.str "__class__" t] [] _ (by decide +kernel) (by decide +kernel) sub (PySem.F.args_bexc_ga (.ref x) (.str "__class__" t)) ?_
  unfold Builtin.«object.__getattribute__»
  refine wpAny_bind (wpAny_of_eq (a := ((Value.ref x : Value), [Value.str "__class__" t])) (by first | rfl | (simp only [slotArgs]; rfl)) ?_)
  refine wpAny_bind (wpAny_pure (wpAny_bind (L0.at (wpAny_bind (L3.at ?_)))))
  show wpAny _ _ (holding [Value.builtin "object.__class__"] (call (.builtin "getset_descriptor.__get__") [.builtin "object.__class__", .ref x, .ref D]) >>= ret) _ _ _
  refine wpAny_bind (wpAny_holding (wpAny_call (class_get (s := ⟨hp, g, d, t + 1, os⟩) (ox := ox) (od := od) X I hm ?_)))
  refine wpAny_pure ?_
  show wpAny _ _ (handedOut (.ref D)) _ _ _
  rw [handedOut_of (v := .ref D) rfl]
  first
    | exact wpAny_pure (wpAny_pure h)
    | exact wpAny_pure h
    | exact wpAny_pure (wpAny_bind (wpAny_pure (wpAny_pure h)))
theorem kitx_excO (hga : findIn K (.ref D) "__getattribute__" = some (some (.builtin "BaseException.__getattribute__"))) (hgt : findIn K (.ref D) "__getattr__" = some none) (hsub : subIn K (.ref D) (.type "BaseException") = some true) (hdct : hasDictIn K D = true) (ha : findIn K (.ref D) "__class__" = some (some (.builtin "object.__class__")))
    (hn : specialIn K (.builtin "object.__class__") "__get__" = some (some (.builtin "getset_descriptor.__get__"))) (htk : takesIn K (.builtin "object.__class__") = some true) (hm : mroIn K D (.type "object") = some true) :
    KitX K (.ref x) (.ref D) (fun h => InstAt h x ox D od) where
  ty := fun _ _ _ I => I.type
  it := fun _ _ X _ => by
    obtain ⟨cdD, hcD, _⟩ := any_some hdct
    unfold clsIn at hcD
    split at hcD
    · rename_i c' d' cd' sl' ho
      intro A' Q' E' s' k q
      unfold isType loadHead
      exact wpAny_bind (wpAny_loadPart (k _ _ (X _ _ ho)) (wpAny_pure q))
    · cases hcD
  ne := fun h tp dd its n sl X htp => by
    obtain ⟨cdD, hcD, _⟩ := any_some hdct
    refine Bool.eq_false_iff.mpr fun q => ?_
    have e : D = tp := Value.ref.inj (beq_iff_eq.mp q)
    subst e
    unfold clsIn at hcD
    split at hcD
    · rename_i c' d' cd' sl' ho
      have z := (X _ _ ho).symm.trans htp
      cases z
    · cases hcD
  ca := fun X I k => kin_classO hga hgt hsub hdct ha hn htk hm X I k
end
end DlI
namespace Dl
open PySem L2 Evl
inductive Ty where
  | non | bl | int | str | lst | tup | dct
  | obj (c : Nat)
  | exc (c : Nat)
def tyD : D → Option Ty
  | .non => some .non
  | .bl _ => some .bl
  | .int _ => some .int
  | .str _ => some .str
  | .lst _ => some .lst
  | .tup _ => some .tup
  | .dct _ => some .dct
  | .obj c _ => some (.obj c)
  | .exc c _ => some (.exc c)
  | .urn => none
def tyVal (ct : Nat → Addr) : Ty → Value
  | .non => .type "NoneType"
  | .bl => .type "bool"
  | .int => .type "int"
  | .str => .type "str"
  | .lst => .type "list"
  | .tup => .type "tuple"
  | .dct => .type "dict"
  | .obj c => .ref (ct c)
  | .exc c => .ref (ct c)
/-- what an own class must say so that isinstance asks its objects rightly -/
structure ObjC (K : PySem.W.Frag) (C : Addr) : Prop where
  cl : Cls K C
  ha : PySem.W.findIn K (.ref C) "__class__" = some (some (.builtin "object.__class__"))
  hn : PySem.W.specialIn K (.builtin "object.__class__") "__get__" = some (some (.builtin "getset_descriptor.__get__"))
  ht : PySem.W.takesIn K (.builtin "object.__class__") = some true
  hm : PySem.W.mroIn K C (.type "object") = some true
/-- the answers tb are the written part's -/
structure IsiOk (K : PySem.W.Frag) (ct : Nat → Addr) (ans : Value → Option Bool) (tb : Ty → Option Bool) : Prop where
  an : ∀ ty b, tb ty = some b → ans (tyVal ct ty) = some b
  ob : ∀ c b, tb (.obj c) = some b → ObjC K (ct c)
  ex : ∀ c b, tb (.exc c) = some b → L2.ExcC K (ct c)
section
variable {X : Cx} {ct : Nat → Addr} {E : L2.St → XK}
/-- what the library's rules ask of a value that stands for data -/
theorem kit_rep {pins : List (Addr × Obj)} {σ : L2.St} {H : Hp} {s : Shared} {ua : Addr} {F : Hp} {v : V} {d : D} {u : Value} {ty : Ty} {ans : Value → Option Bool} {tb : Ty → Option Bool} {b : Bool} (I : Inv X pins σ H s) (e : Ex F H) (r : Rep X.K ct ua F v d) (rv : RelV v u) (h : tyD d = some ty) (T : IsiOk X.K ct ans tb) (hb : tb ty = some b) :
    ∃ P : Heap → Prop, PySem.W.KitX X.K u (tyVal ct ty) P ∧ P s.heap ∧ u ≠ .builtin "__main__.__loader__#opaque" := by
  cases r with
  | non => cases h; exact kit_of I rv (.base .non)
  | bl x => cases h; exact kit_of I rv (.base (.bl x))
  | int i => cases h; exact kit_of I rv (.base (.int i))
  | str x => cases h; exact kit_of I rv (.base (.str x))
  | lst h1 h2 => cases h; exact kit_of I rv (.base (.lst (e _ _ h1)))
  | tup h1 h2 =>
    cases h
    rcases h1 with (h1 | ⟨o, h1⟩) | ⟨o, its, n, h1, hc, _⟩
    · exact kit_of I rv (.base (.tup (e _ _ h1)))
    · exact kit_of I rv (.fTuple (e _ _ h1))
    · exact kit_of I rv (.kTuple h1 hc)
  | dct h1 h2 h3 h4 => cases h; exact kit_of I rv (.base (.dK (e _ _ h1)))
  | obj h1 h2 h3 =>
    cases h
    have C := T.ob _ _ hb
    exact kit_of I rv (.base (.ins (e _ _ h1) C.cl C.ha C.hn C.ht C.hm))
  | @exc a dd c fs gs h1 h2 h3 h4 =>
    cases h
    have C := T.ex _ _ hb
    cases (show u = Value.ref a from rv)
    obtain ⟨⟨oe, vs, ha, hz, hd⟩, _, _⟩ := (show ObjOk X.prog X.w H s.heap a (exV (.ref (ct c)) dd a) from I.hok a _ (e _ _ h1))
    obtain ⟨mA, ⟨od, es, ep, ho, _⟩, hr⟩ := (show ObjOk X.prog X.w H s.heap dd (.xd fs) from I.hok dd _ (e _ _ h2))
    have J : PySem.W.InstAt s.heap a oe (ct c) (some od) := ⟨ha, hz.1, by unfold PySem.W.notCls; rw [hd] <;> rfl, by rw [hz.2]; exact ho⟩
    exact ⟨_, DlI.kitx_excO (od := some od) (ox := oe) C.hg C.hk C.hs C.hd C.ha C.hn C.ht C.hm, J, fun z => nomatch z⟩
  | urn => cases h
def dIsi (tb : Ty → Option Bool) (f : DE) : DE := fun ρ => bnd (f ρ) fun x => opt (((tyD x).bind tb).map .bl)
/-- isinstance(e, C) -/
theorem pd_isi1 {e t : Expr} {f : DE} {p pos : Pos} {c : V} {cv : Value} {tb : Ty → Option Bool} (hg : Gl X "isinstance") (hm : X.mg "isinstance" = none) (he : PD X ct E e f) (ht : PE X t (tC c)) (hc : ClsV c cv) (T : IsiOk X.K ct (fun ty => PySem.W.kitOne X.K ty cv) tb)
    (hs : starEach [e, t] X.env = (false, eval e X.env) :: starEach [t] X.env := by rfl) (hs2 : starEach [t] X.env = (false, eval t X.env) :: starEach [] X.env := by rfl) (hpl : (backTo pos (starEach [t] X.env)).any (·.1) = false := by rfl) :
    PD X ct E (.Call (.Name "isinstance" p) [e, t] [] pos) (dIsi tb f) := by
  refine ⟨fun pins s σ H Q I ⟨ua, F, ρ, u, R, q⟩ => ?_⟩
  refine wpAny_Call_Name_kw (ld_blt I hg hm PyProof.Rows.boot_isinstance ?_ (by decide) (by decide))
  refine PyProof.Rows.callWith_builtin1 ?_ hs hpl
  refine PyProof.Rows.spliced_more (thn (he.run pins s σ H (fun v H1 => ∃ F1 x u1 ty b, Stp ua F H F1 H1 ∧ Urn ua u1 H1 ∧ Rep X.K ct ua F1 v x ∧ tyD x = some ty ∧ tb ty = some b ∧ Q (.bl b) H1) I ?_) fun u1 s1 ⟨v, H1, I1, r1, F1, x, uu, ty, b, st, hu, rx, h1, h2, q1⟩ => ?_) hs
  · refine tG_bind (rel' := rD X.K ct) R q fun F1 v H1 x u1 s1 R1 r1 q1 => ?_
    refine out_opt q1 fun d hd q2 => ?_
    cases h1 : tyD x with
    | none => rw [h1] at hd; cases hd
    | some ty =>
      rw [h1] at hd
      cases h2 : tb ty with
      | none => rw [Option.bind_some, h2] at hd; cases hd
      | some b =>
        rw [Option.bind_some, h2] at hd
        cases hd
        exact ⟨F1, x, u1, ty, b, s1, R1.urn, r1, h1, h2, out.ret R1.toBs q2 (.bl b)⟩
  · refine PyProof.Rows.spliced_more (thn (ht.run pins s1 σ H1 (fun w H2 => w = c ∧ H2 = H1) I1 ⟨rfl, rfl⟩) fun u2 s2 ⟨w, H2, I2, r2, ew, eH⟩ => PyProof.Rows.spliced_none ?_) hs2
    subst ew eH
    obtain rfl := hc.eq r2
    obtain ⟨P, Z, p, hx⟩ := kit_rep I2 st.exH rx r1 h1 T h2
    exact PySem.W.kia_one Z I2.kIn p (T.an ty b h2) hx fun tk => ⟨.bl b, H2, I2.tok tk, rfl, q1⟩
end
end Dl
set_option Elab.async false
set_option linter.all false
set_option maxRecDepth 100000
set_option maxHeartbeats 4000000
/-! Dl15: isinstance with a tuple of classes; own objects compared. -/
namespace Dl
open PySem L2 Evl
/-- the classes of a display -/
inductive AllC (X : Cx) : List Expr → List Value → Prop
  | nil : AllC X [] []
  | cons {t : Expr} {c : V} {cv : Value} {es : List Expr} {cs : List Value} : PE X t (tC c) → ClsV c cv → starEach (t :: es) X.env = (false, eval t X.env) :: starEach es X.env → AllC X es cs → AllC X (t :: es) (cv :: cs)
theorem all_c {X : Cx} {es : List Expr} {cs : List Value} (h : AllC X es cs) : ∀ {pins : List (Addr × Obj)} {σ : L2.St} {H : Hp} {s : Shared} {pos : Pos} {Q : List Value → Shared → Prop}, Inv X pins σ H s → (∀ s', Inv X pins σ H s' → Q cs s') → wpAny (model X.prog X.w) X.A (spliced (backTo pos (starEach es X.env))) Q X.xe s := by
  induction h with
  | nil => intro pins σ H s pos Q I q; exact wpAny_items_nil (q s I)
  | @cons t c cv es cs ht hc hst _ ih =>
    intro pins σ H s pos Q I q
    refine wpAny_items_cons (thn (ht.run pins s σ H (fun w H2 => w = c ∧ H2 = H) I ⟨rfl, rfl⟩) fun u2 s2 ⟨w, H2, I2, r2, ew, eH⟩ => ?_) hst
    subst ew eH
    obtain rfl := hc.eq r2
    exact ih I2 fun s' I' => q s' I'
section
variable {X : Cx} {ct : Nat → Addr} {E : L2.St → XK}
theorem pd_isiT {e : Expr} {es : List Expr} {f : DE} {p pos tpos : Pos} {kk : Nat} {cs : List Value} {tb : Ty → Option Bool} (hg : Gl X "isinstance") (hm : X.mg "isinstance" = none) (he : PD X ct E e f) (ht : AllC X es cs) (hl : cs.length ≤ 1000) (T : IsiOk X.K ct (fun ty => PySem.W.kitAny X.K ty cs) tb)
    (hs : starEach [e, .Tuple es kk tpos] X.env = (false, eval e X.env) :: starEach [.Tuple es kk tpos] X.env := by rfl) (hs2 : starEach [.Tuple es kk tpos] X.env = (false, eval (.Tuple es kk tpos) X.env) :: starEach [] X.env := by rfl) (hpl : (backTo pos (starEach [.Tuple es kk tpos] X.env)).any (·.1) = false := by rfl) :
    PD X ct E (.Call (.Name "isinstance" p) [e, .Tuple es kk tpos] [] pos) (dIsi tb f) := by
  refine ⟨fun pins s σ H Q I ⟨ua, F, ρ, u, R, q⟩ => ?_⟩
  refine wpAny_Call_Name_kw (ld_blt I hg hm PyProof.Rows.boot_isinstance ?_ (by decide) (by decide))
  refine PyProof.Rows.callWith_builtin1 ?_ hs hpl
  refine PyProof.Rows.spliced_more (thn (he.run pins s σ H (fun v H1 => ∃ F1 x u1 ty b, Stp ua F H F1 H1 ∧ Urn ua u1 H1 ∧ Rep X.K ct ua F1 v x ∧ tyD x = some ty ∧ tb ty = some b ∧ Q (.bl b) H1) I ?_) fun u1 s1 ⟨v, H1, I1, r1, F1, x, uu, ty, b, st, hu, rx, h1, h2, q1⟩ => ?_) hs
  · refine tG_bind (rel' := rD X.K ct) R q fun F1 v H1 x u1 s1 R1 r1 q1 => ?_
    refine out_opt q1 fun d hd q2 => ?_
    cases h1 : tyD x with
    | none => rw [h1] at hd; cases hd
    | some ty =>
      rw [h1] at hd
      cases h2 : tb ty with
      | none => rw [Option.bind_some, h2] at hd; cases hd
      | some b =>
        rw [Option.bind_some, h2] at hd
        cases hd
        exact ⟨F1, x, u1, ty, b, s1, R1.urn, r1, h1, h2, out.ret R1.toBs q2 (.bl b)⟩
  · refine PyProof.Rows.spliced_more (wpAny_Tuple (all_c ht I1 fun s2 I2 => ⟨by rw [sizeLine_eq]; omega, PyProof.Rows.spliced_none ?_⟩)) hs2
    have kp : ∀ b o, s2.heap.get? b = some o → (s2.heap.push { cls := .type "tuple", data := .seq cs.toArray }).get? b = some o := fun _ _ z => Heap.get?_push_of_some _ z
    have I3 : Inv X pins σ H1 { s2 with heap := s2.heap.push { cls := .type "tuple", data := .seq cs.toArray } } := I2.kept (t' := s2.toks) kp
    obtain ⟨P, Z, p, hx⟩ := kit_rep I3 st.exH rx r1 h1 T h2
    exact PySem.W.kia_tup (its := cs) Z I3.kIn p (Heap.get?_push_size s2.heap rfl) (T.an ty b h2) hx fun tk => ⟨.bl b, H1, I3.tok tk, rfl, q1⟩
end
end Dl
set_option Elab.async false
set_option linter.all false
set_option maxRecDepth 100000
set_option maxHeartbeats 4000000
/-! Dl16: dicts of data compared; own objects compared, asked with in, len. -/
namespace Dl
open PySem L2 Evl
/-! ### dicts of comparable data -/
def shps : List (Key × D) → Bool
  | [] => true
  | (_, d) :: r => shp d && shps r
def eqKvs (ls : List (Key × D)) : List (Key × D) → Bool
  | [] => true
  | (k, d) :: r => (match lookD ls k with
    | some y => PyData.eqv (toPy d) (toPy y) && eqKvs ls r
    | none => false)
def oEqDct : D → D → Option D
  | .dct ks, .dct ls => chk (shps ks && shps ls) (.bl (ks.length == ls.length && eqKvs ls ks))
  | _, _ => none
def oNeDct : D → D → Option D
  | .dct ks, .dct ls => chk (shps ks && shps ls) (.bl (!(ks.length == ls.length && eqKvs ls ks)))
  | _, _ => none
theorem shps_look {ls : List (Key × D)} (h : shps ls = true) {k : Key} {d : D} (e : lookD ls k = some d) : shp d = true := by
  induction ls with
  | nil => cases e
  | cons p r ih =>
    obtain ⟨k', d'⟩ := p
    obtain ⟨h1, h2⟩ := Bool.and_eq_true_iff.mp h
    unfold lookD at e
    rw [List.find?_cons] at e
    by_cases hk : k' = k
    · simp only [hk, decide_true] at e; cases e; exact h1
    · simp only [hk, decide_false] at e; exact ih h2 e
theorem eqP_data {X : Cx} {pins : List (Addr × Obj)} {σ : L2.St} {H : Hp} {s : Shared} {A : Around} {v w : V} {x y : PyData} {u t : Value} (I : Inv X pins σ H s) (hx : Dp X.K H v x) (hy : Dp X.K H w y) (rv : RelV v u) (rw' : RelV w t) (sx : SeqAt.shaped x = true) (sy : SeqAt.shaped y = true) (hu : A.units + 64 < cLine) :
    SeqAt.EqP X.prog X.w A s u t (PyData.eqv x y) := by
  obtain ⟨as, r1⟩ := Dp.reads I x v u hx rv
  obtain ⟨bs, r2⟩ := Dp.reads I y w t hy rw'
  exact (SeqAt.eqAt_reads x y A s u t as bs r1 r2 (SeqAt.canLay_of_shaped sx) (SeqAt.canLay_of_shaped sy) (SeqAt.room_of_shaped sx hu)).eqP
theorem hits_data {X : Cx} {ct : Nat → Addr} {ua : Addr} {F : Hp} {pins : List (Addr × Obj)} {σ : L2.St} {H : Hp} {s : Shared} {A : Around} {ls : List (Key × V)} {lds : List (Key × D)} {vb : List (Key × Value)} (I : Inv X pins σ H s) (ex : Ex F H) (hu : A.units + 64 < cLine) (kl : lds.map (·.1) = ls.map (·.1)) (rl : Reps X.K ct ua F (ls.map (·.2)) (lds.map (·.2))) (rb : KV ls vb) (sl : shps lds = true) :
    ∀ {ks : List (Key × V)} {kds : List (Key × D)} {va : List (Key × Value)}, kds.map (·.1) = ks.map (·.1) → Reps X.K ct ua F (ks.map (·.2)) (kds.map (·.2)) → KV ks va → shps kds = true → PySem.W.KeqHitsP X.prog X.w A s vb va (eqKvs lds kds)
  | [], [], _, _, _, .nil, _ => .nil
  | [], _ :: _, _, h, _, _, _ => by cases h
  | _ :: _, [], _, h, _, _, _ => by cases h
  | (k1, v1) :: ks, (k2, d2) :: kds, _, hk, hr, .cons (b := q) h t, sk => by
    have e : k2 = k1 := (List.cons.inj hk).1
    subst e
    obtain ⟨h1, h2⟩ := h
    obtain ⟨qk, qv⟩ := q
    obtain rfl : k2 = qk := h1
    obtain ⟨s1, s2⟩ := Bool.and_eq_true_iff.mp sk
    cases hr with
    | cons r1 rs =>
      have ih := hits_data I ex hu kl rl rb sl (List.cons.inj hk).2 rs t s2
      unfold eqKvs
      rcases look_rep (k := k2) kl rl with ⟨v, d, a, b, c⟩ | ⟨a, b⟩
      · rw [b]
        have rv := rb.val k2
        rw [a] at rv
        obtain ⟨t2, e2, r2⟩ := RelO.some_of rv
        have sd := shps_look sl b
        exact .hit e2 (eqP_data I (dp_of ex r1 (shp_of s1).1) (dp_of ex c (shp_of sd).1) h2 r2 (shp_of s1).2 (shp_of sd).2 hu) ih
      · rw [b]
        have rv := rb.val k2
        rw [a] at rv
        exact .miss (RelO.none_of rv)
def rEqDct (neg : Bool) (ct : Nat → Addr) (K : PySem.W.Frag) : R2 := fun v w H Q => ∃ ua F a b ks ls kds lds, v = .ref a ∧ w = .ref b ∧ Ex F H ∧ H a = some (.dK ks) ∧ H b = some (.dK ls) ∧ kds.map (·.1) = ks.map (·.1) ∧ Reps K ct ua F (ks.map (·.2)) (kds.map (·.2)) ∧
  lds.map (·.1) = ls.map (·.1) ∧ Reps K ct ua F (ls.map (·.2)) (lds.map (·.2)) ∧ shps kds = true ∧ shps lds = true ∧ Q (.bl (if neg then !(kds.length == lds.length && eqKvs lds kds) else kds.length == lds.length && eqKvs lds kds)) H
theorem opr_eqDct {X : Cx} {ct : Nat → Addr} (hu : X.A.units + 65 < cLine) : OpR X (compareOp .Eq) (rEqDct false ct X.K) := by
  intro pins s σ H x y v u Q I rx ry h
  obtain ⟨ua, F, a, b, ks, ls, kds, lds, rfl, rfl, ex, ea, eb, hk, hr, hk2, hr2, s1, s2, q⟩ := h
  obtain rfl : v = Value.ref a := rx
  obtain rfl : u = Value.ref b := ry
  obtain ⟨_, ya, va, ra, da⟩ := (show ObjOk X.prog X.w H s.heap a (.dK ks) from I.hok a _ ea)
  obtain ⟨_, yb, vb, rb, db⟩ := (show ObjOk X.prog X.w H s.heap b (.dK ls) from I.hok b _ eb)
  have e1 : va.length = kds.length := by rw [← ra.length]; have := congrArg List.length hk; simpa using this.symm
  have e2 : vb.length = lds.length := by rw [← rb.length]; have := congrArg List.length hk2; simpa using this.symm
  refine PySem.W.rcP_dicts (knd := mixKind X.prog X.w) ya yb da db (by omega) (fun _ => hits_data I ex (A := X.A.in1) (by show X.A.units + 1 + 64 < cLine; omega) hk2 hr2 rb s2 hk hr ra s1) _ _ ?_
  rw [e1, e2]
  exact ⟨.bl _, H, I, rfl, q⟩
theorem rop_eqDct {K : PySem.W.Frag} {ct : Nat → Addr} : ROp K ct (rEqDct false ct K) oEqDct := by
  intro ua F H u E v w x y Q b r1 r2 q
  refine out_opt q fun d hd q2 => ?_
  cases x <;> first | (cases hd; done) | skip
  cases y <;> first | (cases hd; done) | skip
  obtain ⟨hs, rfl⟩ := chk_some hd
  obtain ⟨s1, s2⟩ := Bool.and_eq_true_iff.mp hs
  cases r1 with | dct h1 h2 h3 h4 =>
  cases r2 with | dct g1 g2 g3 g4 =>
  exact ⟨ua, F, _, _, _, _, _, _, rfl, rfl, b.ex, b.ex _ _ h1, b.ex _ _ g1, h3, h4, g3, g4, s1, s2, out.ret b q2 (.bl _)⟩
/-- == of data, dicts among them -/
def rEqA (K : PySem.W.Frag) (ct : Nat → Addr) : R2 := rOr (rEqD K) (rEqDct false ct K)
def oEqA (x y : D) : Option D := (oEq x y).or (oEqDct x y)
theorem opr_eq {X : Cx} {ct : Nat → Addr} (hu : X.A.units + 65 < cLine) : OpR X (compareOp .Eq) (rEqA X.K ct) := (op_eqD (by omega)).or (opr_eqDct hu)
theorem rop_eqA {K : PySem.W.Frag} {ct : Nat → Addr} : ROp K ct (rEqA K ct) oEqA := rop_eq.or rop_eqDct
end Dl
set_option Elab.async false
set_option linter.all false
set_option maxRecDepth 100000
set_option maxHeartbeats 4000000
/-! Dl17: own objects in comparisons, with in, len. -/
namespace Dl
open PySem L2 Evl
/-- the type of what stands for data -/
theorem type_rep {X : Cx} {ct : Nat → Addr} {pins : List (Addr × Obj)} {σ : L2.St} {H : Hp} {s : Shared} {ua : Addr} {F : Hp} {v : V} {d : D} {u : Value} {ty : Ty} (I : Inv X pins σ H s) (e : Ex F H) (r : Rep X.K ct ua F v d) (rv : RelV v u) (h : tyD d = some ty) :
    PySem.W.Looks (model X.prog X.w) s.heap (typeOf u) (tyVal ct ty) := by
  have go : ∀ {v : V} {u t : Value}, RelV v u → TyX X.K H v t → PySem.W.Looks (model X.prog X.w) s.heap (typeOf u) t := fun {v u t} rv ty => by
    obtain ⟨P, Z, p, _⟩ := kit_of I rv ty
    exact Z.ty _ _ I.kIn p
  cases r with
  | non => cases h; exact go rv (.base .non)
  | bl x => cases h; exact go rv (.base (.bl x))
  | int i => cases h; exact go rv (.base (.int i))
  | str x => cases h; exact go rv (.base (.str x))
  | lst h1 h2 => cases h; exact go rv (.base (.lst (e _ _ h1)))
  | tup h1 h2 =>
    cases h
    rcases h1 with (h1 | ⟨o, h1⟩) | ⟨o, its, n, h1, hc, _⟩
    · exact go rv (.base (.tup (e _ _ h1)))
    · exact go rv (.fTuple (e _ _ h1))
    · exact go rv (.kTuple h1 hc)
  | dct h1 h2 h3 h4 => cases h; exact go rv (.base (.dK (e _ _ h1)))
  | @obj a dx c fs gs h1 h2 h3 =>
    cases h
    cases (show u = Value.ref a from rv)
    obtain ⟨mA, O, _⟩ := ins_get I.hok (e _ _ h1)
    obtain ⟨od, J, _⟩ := O.look
    exact J.type
  | @exc a dd c fs gs h1 h2 h3 h4 =>
    cases h
    cases (show u = Value.ref a from rv)
    obtain ⟨⟨oe, vs, ha, hz, hd⟩, _, _⟩ := (show ObjOk X.prog X.w H s.heap a (exV (.ref (ct c)) dd a) from I.hok a _ (e _ _ h1))
    exact fun A Q E s k q => wpAny_typeOf_ref (k _ _ ha) (by rw [hz.1]; exact q)
  | urn => cases h
def isOf (c : Nat) : D → Bool
  | .obj c' _ => decide (c' = c)
  | _ => false
theorem isOf_some {c : Nat} {x : D} (h : isOf c x = true) : ∃ gs, x = .obj c gs := by
  cases x <;> first | (cases h; done) | skip
  have h1 := of_decide_eq_true h
  subst h1
  exact ⟨_, rfl⟩
/-- a op b, a of the class c, whose special method keeps m: an effect on the urn, perhaps an exception -/
def dOwn2 (c : Nat) (tb : Ty → Bool) (m : DF) (f g : DE) : DE := fun ρ => bnd (f ρ) fun x => bnd (g ρ) fun y => if isOf c x = true ∧ (tyD y).any tb = true then m [x, y] else stuck
section
variable {X : Cx} {ct : Nat → Addr} {E : L2.St → XK} {k : Nat} {f : Addr} {fd : FuncData} {ps : List Str} {n c : Nat} {m : DF} {a b : Expr} {pos : Pos} {ga gb : DE}
/-- a call's end, not the sign that says 'not mine' -/
theorem back_rel {pins : List (Addr × Obj)} {σ : L2.St} {Q : VK} {u : Value} {s : Shared} (h : EP X pins σ Q u s) : PySem.W.CmpBack (EP X pins σ Q) u s := by
  obtain ⟨v, H, I, r, q⟩ := id h
  unfold PySem.W.CmpBack
  split
  · cases v <;> first | (cases r; done) | (obtain ⟨_, z⟩ := r; cases z)
  · exact h
theorem pd_cmpOwn {op : CmpOp} {tb : Ty → Bool} (ho : ∀ u v : Value, compareOp op u v = richCompare op u v) (ha : PD X ct E a ga) (hb : PD X ct E b gb) (F : FnOk X.prog X.w X.K X.mg X.base (L2.CX X.prog X.w) k f fd ps (spD X.K ct 2 m)) (hr : Room k X.A) (hu : X.A.units < cLine) (hbn : Binds X.K fd ps []) (hx : PaE X E)
    (hn : ∀ ty, tb ty = true → PySem.W.notFirst X.K (ct c) (tyVal ct ty) = true) (hs : PySem.W.findIn X.K (.ref (ct c)) (cmpInfo op).2.1 = some (some (.ref f))) (hf : PySem.W.isFn X.K (.ref f) = true) (hm : behindInMarks op b = false) : PD X ct E (.Compare a [op] [b] pos) (dOwn2 c tb m ga gb) := by
  refine ⟨fun pins s σ H Q I ⟨ua, F0, ρ, u, R, q⟩ => ?_⟩
  refine wpAny_Compare1 (thn (ha.run pins s σ H (fun x H1 => ∃ F1 d u1, Stp ua F0 H F1 H1 ∧ RE X.K ct ua F1 ρ u1 σ H1 ∧ Rep X.K ct ua F1 x d ∧ out X.K ct (rD X.K ct) ua F1 H1 (E σ) (bnd (gb ρ) (fun y => if isOf c d = true ∧ (tyD y).any tb = true then m [d, y] else stuck) u1) Q) I ?_) fun v s1 ⟨x, H1, I1, rx, F1, d1, u1, s1', R1, r1, q1⟩ => ?_) hm
  · exact tG_bind (rel' := rD X.K ct) R q fun F1 v H1 x u1 s1 R1 r1 q1 => ⟨F1, x, u1, s1, R1, r1, q1⟩
  refine thn (hb.run pins s1 σ H1 (fun y H2 => ∃ F2 d2 u2, Stp ua F1 H1 F2 H2 ∧ RE X.K ct ua F2 ρ u2 σ H2 ∧ Rep X.K ct ua F2 y d2 ∧ out X.K ct (rD X.K ct) ua F2 H2 (E σ) ((if isOf c d1 = true ∧ (tyD d2).any tb = true then m [d1, d2] else stuck) u2) Q) I1 ?_) fun w s2 ⟨y, H2, I2, ry, F2, d2, u2, s2', R2, r2, q2⟩ => ?_
  · exact tG_bind (rel' := rD X.K ct) R1 q1 fun F2 v H2 y u2 s2 R2 r2 q2 => ⟨F2, y, u2, s2, R2, r2, q2⟩
  split at q2
  · rename_i hc
    obtain ⟨gs, rfl⟩ := isOf_some hc.1
    have r1' := r1.mono s2'.exF
    have r1'' := r1'
    cases ht : tyD d2 with
    | none => rw [ht] at hc; exact absurd hc.2 (by simp)
    | some ty =>
      rw [ht] at hc
      cases r1' with
      | @obj p dx _ fs _ h1 h2 h3 =>
        obtain rfl : v = Value.ref p := rx
        obtain ⟨mA, O, _⟩ := ins_get I2.hok (R2.ex _ _ h1)
        obtain ⟨od, J, _⟩ := O.look
        obtain ⟨m', hF⟩ := I2.fr
        rw [ho]
        refine PySem.W.cmp_K hu hF I2.ok.mod.kin J (type_rep I2 R2.ex r2 ry ht) (hn ty (by simpa using hc.2)) hs hf ?_
        refine wpAny_mono (run_fnSD (us := [.ref p, w]) (vs := [.ref p, y]) F hr hbn .nil (hx σ) I2 (.cons rfl (.cons ry .nil)) ⟨ua, F2, u2, _, R2.toBs, .cons r1'' (.cons r2 .nil), rfl, q2⟩) (fun u' s' h => back_rel h) fun _ _ z => z
  · exact (show False from q2).elim
end
end Dl
set_option Elab.async false
set_option linter.all false
set_option maxRecDepth 100000
set_option maxHeartbeats 4000000
/-! Dl18: static methods. -/
namespace Dl
open PySem L2 Evl
structure Stat (K : PySem.W.Frag) (C : Addr) (nm : Str) (p f : Addr) : Prop where
  hg : PySem.W.specialIn K (.ref C) "__getattribute__" = some (some (.builtin "type.__getattribute__"))
  rd : PySem.W.readsIn K C (.type "type") = true
  fc : PySem.W.findCls K (.ref C) (.type "type") nm = some (.get (.builtin "staticmethod.__get__") (.ref p) .none (.ref C))
  rc : ∃ rest, PySem.W.recIn K p "staticmethod" = some (.ref f :: rest)
  kp : PySem.W.keepIn K (.ref f) = true
section
variable {X : Cx} {ct : Nat → Addr} {E : L2.St → XK} {k : Nat} {f : Addr} {fd : FuncData} {ps : List Str} {n c : Nat} {m : DF} {e : Expr} {es : List Expr} {x nm : Str} {p1 apos pos : Pos} {g : DA} {dvs : List V} {ds : List Value} {dds : List D} {p C : Addr}
theorem pd_static {pl : Sem Bool} (T : Stat X.K C nm p f) (F : FnOk X.prog X.w X.K X.mg X.base (L2.CX X.prog X.w) k f fd ps (spD X.K ct n m)) (hr : Room k X.A) (hb : Binds X.K fd ps ds) (hd : Vals dvs ds) (hdd : DefOk X.K ct dvs dds) (hx : PaE X E) (ha : PDA X ct E (e :: es) g) (hl : LenA (e :: es).length g) (hn : (e :: es).length + dds.length = n)
    (hgx : Gl X x) (hm : X.mg x = some (.ref C)) (hdb : (x == ("__debug__" : Str)) = false := by decide)
    (hst : starEach (e :: es) X.env = (false, eval e X.env) :: starEach es X.env := by rfl) (hpl : (backTo pos (starEach es X.env)).any (·.1) = false := by rfl)
    (ht : eval (.Call (.Attribute (.Name x p1) nm apos) (e :: es) [] pos) X.env = (do
      let ov ← eval (.Name x p1) X.env
      standAt apos.atName
      let (f, first) ← holding [ov] (getMethod ov nm pl)
      callWith pos f first (backTo pos (starEach (e :: es) X.env)) (backToKw pos (keywordEach [] X.env))) := by rfl) :
    PD X ct E (.Call (.Attribute (.Name x p1) nm apos) (e :: es) [] pos) (dCallF m dds g) := by
  refine ⟨fun pins s σ H Q I ⟨ua, F0, ρ, u, R, q⟩ => ?_⟩
  obtain ⟨rest, hrc⟩ := T.rc
  refine PySem.W.methodCall_KW (pl := pl) (ld_glob I hgx hm ?_ hdb) ht
  refine PySem.W.method_cls I.kIn T.hg ?_
  refine PySem.W.cls_bind I.kIn T.rd T.fc ?_
  refine wpAny_call (PySem.W.sm_get (I.tok (s.toks + 1)).kIn hrc ?_)
  refine PySem.W.handed_on rfl ?_
  have I1 := I.tok (s.toks + 1)
  refine PySem.W.callWith_K (first := []) (h₀ := X.base) I.ok.mod.kin T.kp (thn (ha.run pos pins _ σ H (fun vs H1 => ∃ F1 xs u1, Stp ua F0 H F1 H1 ∧ Urn ua u1 H1 ∧ Reps X.K ct ua F1 vs xs ∧ xs.length = (e :: es).length ∧ out X.K ct (rD X.K ct) ua F1 H1 (E σ) (m (xs ++ dds) u1) Q) I1 ?_) fun us s2 ⟨vs, H2, I2, r, F1, xs, u1, st, hu, rx, hlen, q2⟩ => ⟨I2.kIn, ?_⟩) hst hpl
  · refine ⟨ua, F0, ρ, u, R, ?_⟩
    unfold dCallF bnd at q
    cases eg : g ρ u with
    | no => rw [eg] at q; exact q
    | exc c gs u1 => rw [eg] at q; exact q
    | ok xs u1 =>
      rw [eg] at q
      exact fun F1 vs H1 s hu r => ⟨F1, xs, u1, s, hu, r, hl _ _ _ _ eg, out.mono (r := m (xs ++ dds) u1) R.toBs q s hu⟩
  · exact run_fnSD F hr hb hd (hx σ) I2 r ⟨ua, F1, u1, xs ++ dds, st.bs hu, rx.append (hdd ua F1), by rw [List.length_append, hlen]; exact hn, q2⟩
end
end Dl
set_option Elab.async false
set_option linter.all false
set_option maxRecDepth 100000
set_option maxHeartbeats 4000000
/-! Dl19: [e for .. in .. for .. in ..]. -/
namespace Dl
open PySem L2 Evl
def noOwn (ρ : En) : Bool := ρ.all fun s => match s with
  | .own _ => false
  | _ => true
theorem noOwn_get {ρ : En} (h : noOwn ρ = true) {i : Nat} {d : D} : ρ[i]? ≠ some (.own d) := fun e => by
  have := List.all_eq_true.mp h (.own d) (List.mem_of_getElem? e)
  cases this
theorem RE.move {K : PySem.W.Frag} {ct : Nat → Addr} {ua : Addr} {F F' H H' : Hp} {ρ : En} {u u' : U} {σ : L2.St} (R : RE K ct ua F ρ u σ H) (hn : noOwn ρ = true) (e : Ex F F') (b : Bs ua F' u' H') : RE K ct ua F' ρ u' σ H' where
  toBs := b
  len := R.len
  vals := fun i d h => by
    obtain ⟨v, h1, h2⟩ := R.vals i d h
    exact ⟨v, h1, h2.mono e⟩
  owns := fun i d h => absurd h (noOwn_get hn)
def dLc2Go (tg : Tg) (t : DB) (fi1 : DI) (tg1 : Tg) (t1 : DB) (e : DE) (vs1 : List Nat) (ρ0 : En) : List D → M (List D)
  | [] => ret []
  | x :: xs => bnd (opt (bindT tg x ρ0)) fun ρ1 => bnd (opt (chk (noOwn ρ1) ())) fun _ => bnd (nx (t ρ1)) fun b =>
    if b = true then bnd (nx (fi1 ρ1)) fun ys => bnd (opt (chk (decide (ys.length ≤ 300)) ())) fun _ => bnd (dLcGo tg1 t1 e (wipeE ρ1 vs1) ys) fun zs => bnd (dLc2Go tg t fi1 tg1 t1 e vs1 ρ0 xs) fun ws => ret (zs ++ ws)
    else dLc2Go tg t fi1 tg1 t1 e vs1 ρ0 xs
def dLc2 (fi : DI) (tg : Tg) (t : DB) (fi1 : DI) (tg1 : Tg) (t1 : DB) (e : DE) (vs vs1 : List Nat) : DE := fun ρ => bnd (fi ρ) fun xs => bnd (opt (chk (decide (xs.length ≤ 300)) ())) fun _ => bnd (dLc2Go tg t fi1 tg1 t1 e vs1 (wipeE ρ vs) xs) fun ys => ret (.lst ys)
section
variable {K : PySem.W.Frag} {ct : Nat → Addr} {ua : Addr} {F F1 F2 H H1 H2 : Hp} {ρ ρ' : En} {u u1 u2 : U} {σ : L2.St}
theorem lc2_go {Φ : Res D → Prop} (hno : ¬ Φ .no) {tg tg1 : Tg} {t t1 : DB} {fi1 : DI} {e : DE} {vs vs1 : List Nat} {J : It} {xs : List D} {Q : VK} (hT : ∀ i ∈ tg.slots, i ∈ vs) (hT1 : ∀ i ∈ tg1.slots, i ∈ vs1) (R1 : RE K ct ua F1 ρ u1 σ H1) (W : Walks K ct ua F1 J xs) (hs : xs.length ≤ 300)
    (q2 : Φ (bnd (dLc2Go tg t fi1 tg1 t1 e vs1 (wipeE ρ vs) xs) (fun ys => ret (.lst ([] ++ ys))) u1))
    (fin : ∀ F' u' H' A acc accV, LcI ua F1 H1 A F' H' u' (.lst accV) → Reps K ct ua F' accV acc → Φ (ret (.lst acc) u') → Q (.ref A) H') : ∀ A, H1 A = none → ∃ W : Nat → Nat → Hp → Prop, (∃ m, W 0 m (upd H1 A (.lst []))) ∧ ∀ i m H, W i m H →
      (J.stop i H ∧ Q (.ref A) H) ∨ (J.go i H ∧ ∃ Nx : Hp → Prop, (∀ H', Nx H' → ∃ m', m' < m ∧ W (i + 1) m' H') ∧ ∀ x H', J.yld i H x H' → tgG K tg x (wipe σ vs) H' fun σ2 H2 => wipe σ2 vs = wipe σ vs ∧ tG K ct rB E0' t σ2 H2 fun b H3 =>
        if b = true then tG K ct (rI K ct) E0' fi1 σ2 H3 fun J1 H4 => ∃ W1 : Nat → Nat → Hp → Prop, (∃ m, W1 0 m H4) ∧ ∀ j k H, W1 j k H →
          (J1.stop j H ∧ Nx H) ∨ (J1.go j H ∧ ∃ Nx1 : Hp → Prop, (∀ H', Nx1 H' → ∃ k', k' < k ∧ W1 (j + 1) k' H') ∧ ∀ x H', J1.yld j H x H' → tgG K tg1 x (wipe σ2 vs1) H' fun σ3 H5 => wipe σ3 vs1 = wipe σ2 vs1 ∧ tG K ct rB E0' t1 σ3 H5 fun b H6 =>
            if b = true then tG K ct (rD K ct) E0' e σ3 H6 fun y H7 => ∃ acc, H7 A = some (.lst acc) ∧ acc.length < sizeLine ∧ Nx1 (upd H7 A (.lst (acc ++ [y]))) else Nx1 H6)
        else Nx H3) := by
  intro Dl hD
  have hU := R1.urn
  refine ⟨fun i m H' => m = xs.length - i ∧ ∃ F' u' acc accV, i ≤ xs.length ∧ acc.length ≤ i * 300 ∧ LcI ua F1 H1 Dl F' H' u' (.lst accV) ∧ Reps K ct ua F' accV acc ∧
    Φ (bnd (dLc2Go tg t fi1 tg1 t1 e vs1 (wipeE ρ vs) (xs.drop i)) (fun ys => ret (.lst (acc ++ ys))) u'), ⟨xs.length, rfl, F1, u1, [], [], Nat.zero_le _, Nat.zero_le _, LcI.init R1.toBs hD, .nil, q2⟩, ?_⟩
  rintro i m H' ⟨rfl, F', u', acc, accV, hi, ha, L, ra, q3⟩
  by_cases hlt : i < xs.length
  · refine .inr ⟨W.go i F' H' hlt L.st.exF L.bs.ex, fun H'' => ∃ F' u' acc accV, i + 1 ≤ xs.length ∧ acc.length ≤ (i + 1) * 300 ∧ LcI ua F1 H1 Dl F' H'' u' (.lst accV) ∧ Reps K ct ua F' accV acc ∧
      Φ (bnd (dLc2Go tg t fi1 tg1 t1 e vs1 (wipeE ρ vs) (xs.drop (i + 1))) (fun ys => ret (.lst (acc ++ ys))) u'), fun H'' h => ⟨xs.length - (i + 1), by omega, rfl, h⟩, fun x H2 y => ?_⟩
    rw [drop_cons hlt] at q3
    unfold dLc2Go at q3
    cases hb : bindT tg xs[i] (wipeE ρ vs) with
    | none => rw [hb] at q3; exact (hno q3).elim
    | some ρ1 =>
      rw [hb, bnd_opt, bnd_assoc] at q3
      cases hn : noOwn ρ1 with
      | false => rw [hn] at q3; exact (hno q3).elim
      | true =>
        rw [hn] at q3
        have q3 : Φ (bnd (bnd (nx (t ρ1)) fun b => if b = true then bnd (nx (fi1 ρ1)) fun ys => bnd (opt (chk (decide (ys.length ≤ 300)) ())) fun _ => bnd (dLcGo tg1 t1 e (wipeE ρ1 vs1) ys) fun zs => bnd (dLc2Go tg t fi1 tg1 t1 e vs1 (wipeE ρ vs) (xs.drop (i + 1))) fun ws => ret (zs ++ ws)
          else dLc2Go tg t fi1 tg1 t1 e vs1 (wipeE ρ vs) (xs.drop (i + 1))) (fun ys => ret (D.lst (acc ++ ys))) u') := q3
        rw [bnd_assoc] at q3
        obtain ⟨F2, s2, hu2, r2⟩ := W.yld i xs[i] x F' u' H' H2 (List.getElem?_eq_getElem hlt) L.st.exF L.bs y
        have L2 := L.step hU s2 hu2
        have R2 := (R1.step L2.st hu2).wipe vs
        refine tgG_run hb R2 r2 fun σ2 hst R3 => ⟨(wipe_stored hst hT).trans (wipe_wipe vs σ), ?_⟩
        refine tG_nx hno R3 q3 fun F3 b' H3 b u3 s3 R4 rb q4 => ?_
        obtain rfl : b' = b := rb
        have L3 := L2.step hU s3 R4.urn
        have ra3 := (ra.mono s2.exF).mono s3.exF
        cases b' with
        | false =>
          rw [if_neg Bool.false_ne_true] at q4 ⊢
          exact ⟨F3, u3, acc, accV, hlt, by omega, L3, ra3, q4⟩
        | true =>
          rw [if_pos rfl, bnd_assoc] at q4
          rw [if_pos rfl]
          refine tG_nx hno R4 q4 fun F4 J1 H4 ys u4 s4 R5 W1 q5 => ?_
          have L4 := L3.step hU s4 R5.urn
          have ra4 := ra3.mono s4.exF
          cases hl : decide (ys.length ≤ 300) with
          | false => rw [hl] at q5; exact (hno q5).elim
          | true =>
            rw [hl] at q5
            have hl' := of_decide_eq_true hl
            have q5 : Φ (bnd (bnd (dLcGo tg1 t1 e (wipeE ρ1 vs1) ys) fun zs => bnd (dLc2Go tg t fi1 tg1 t1 e vs1 (wipeE ρ vs) (xs.drop (i + 1))) fun ws => ret (zs ++ ws)) (fun ys => ret (D.lst (acc ++ ys))) u4) := q5
            have eK : ∀ acc : List D, (fun zs => bnd (bnd (dLc2Go tg t fi1 tg1 t1 e vs1 (wipeE ρ vs) (xs.drop (i + 1))) fun ws => ret (zs ++ ws)) fun ys => ret (D.lst (acc ++ ys))) = fun zs => bnd (dLc2Go tg t fi1 tg1 t1 e vs1 (wipeE ρ vs) (xs.drop (i + 1))) fun ws => ret (D.lst ((acc ++ zs) ++ ws)) := fun acc => by
              funext zs
              rw [bnd_assoc]
              congr 1
              funext ws
              rw [bnd_ret, List.append_assoc]
            rw [bnd_assoc, eK] at q5
            refine ⟨fun j k H'' => k = ys.length - j ∧ ∃ F'' u'' acc' accV', j ≤ ys.length ∧ acc'.length ≤ i * 300 + j ∧ LcI ua F1 H1 Dl F'' H'' u'' (.lst accV') ∧ Ex F4 F'' ∧ Reps K ct ua F'' accV' acc' ∧
              Φ (bnd (dLcGo tg1 t1 e (wipeE ρ1 vs1) (ys.drop j)) (fun zs => bnd (dLc2Go tg t fi1 tg1 t1 e vs1 (wipeE ρ vs) (xs.drop (i + 1))) fun ws => ret (D.lst ((acc' ++ zs) ++ ws))) u''), ⟨ys.length, rfl, F4, u4, acc, accV, Nat.zero_le _, by omega, L4, Ex.refl _, ra4, q5⟩, ?_⟩
            rintro j k H'' ⟨rfl, F'', u'', acc', accV', hj, ha', L5, ex5, ra5, q6⟩
            by_cases hjt : j < ys.length
            · refine .inr ⟨W1.go j F'' H'' hjt ex5 L5.bs.ex, fun H'' => ∃ F'' u'' acc' accV', j + 1 ≤ ys.length ∧ acc'.length ≤ i * 300 + (j + 1) ∧ LcI ua F1 H1 Dl F'' H'' u'' (.lst accV') ∧ Ex F4 F'' ∧ Reps K ct ua F'' accV' acc' ∧
                Φ (bnd (dLcGo tg1 t1 e (wipeE ρ1 vs1) (ys.drop (j + 1))) (fun zs => bnd (dLc2Go tg t fi1 tg1 t1 e vs1 (wipeE ρ vs) (xs.drop (i + 1))) fun ws => ret (D.lst ((acc' ++ zs) ++ ws))) u''), fun H'' h => ⟨ys.length - (j + 1), by omega, rfl, h⟩, fun x2 H5 y2 => ?_⟩
              rw [drop_cons hjt] at q6
              unfold dLcGo at q6
              cases hb2 : bindT tg1 ys[j] (wipeE ρ1 vs1) with
              | none => rw [hb2] at q6; exact (hno q6).elim
              | some ρ3 =>
                rw [hb2, bnd_opt, bnd_assoc] at q6
                obtain ⟨F6, s6, hu6, r6⟩ := W1.yld j ys[j] x2 F'' u'' H'' H5 (List.getElem?_eq_getElem hjt) ex5 L5.bs y2
                have L6 := L5.step hU s6 hu6
                have R6 := (R5.move hn (ex5.trans s6.exF) (s6.bs hu6)).wipe vs1
                refine tgG_run hb2 R6 r6 fun σ3 hst3 R7 => ⟨(wipe_stored hst3 hT1).trans (wipe_wipe vs1 σ2), ?_⟩
                refine tG_nx hno R7 q6 fun F7 b7 H7 bb u7 s7 R8 rb7 q7 => ?_
                obtain rfl : b7 = bb := rb7
                have L7 := L6.step hU s7 R8.urn
                have ra7 := (ra5.mono s6.exF).mono s7.exF
                cases b7 with
                | false =>
                  rw [if_neg Bool.false_ne_true] at q7 ⊢
                  exact ⟨F7, u7, acc', accV', hjt, by omega, L7, (ex5.trans s6.exF).trans s7.exF, ra7, q7⟩
                | true =>
                  rw [if_pos rfl, bnd_assoc] at q7
                  rw [if_pos rfl]
                  refine tG_nx hno R8 q7 fun F8 v8 H8 d8 u8 s8 R9 rd q8 => ?_
                  have L8 := L7.step hU s8 R9.urn
                  have ra8 := ra7.mono s8.exF
                  have hi3 : i < 300 := Nat.lt_of_lt_of_le hlt hs
                  refine ⟨accV', L8.hd, ?_, F8, u8, acc' ++ [d8], accV' ++ [v8], hjt, by simp; omega, L8.put hU, ((ex5.trans s6.exF).trans s7.exF).trans s8.exF, ra8.append (.cons rd .nil), ?_⟩
                  · rw [ra8.length]
                    exact sz_lt (by omega)
                  · rw [bnd_assoc] at q8
                    have e2 : (fun zs => bnd (dLc2Go tg t fi1 tg1 t1 e vs1 (wipeE ρ vs) (xs.drop (i + 1))) fun ws => ret (D.lst ((acc' ++ [d8] ++ zs) ++ ws))) = fun x => bnd (ret (d8 :: x)) fun zs => bnd (dLc2Go tg t fi1 tg1 t1 e vs1 (wipeE ρ vs) (xs.drop (i + 1))) fun ws => ret (D.lst ((acc' ++ zs) ++ ws)) := by
                      funext zs
                      rw [bnd_ret, List.append_assoc acc']
                      rfl
                    rw [e2]; exact q8
            · have e1 : j = ys.length := by omega
              subst e1
              refine .inl ⟨W1.stop F'' H'' ex5 L5.bs.ex, ?_⟩
              rw [List.drop_length] at q6
              have q6 : Φ (bnd (dLc2Go tg t fi1 tg1 t1 e vs1 (wipeE ρ vs) (xs.drop (i + 1))) (fun ws => ret (D.lst ((acc' ++ []) ++ ws))) u'') := q6
              rw [List.append_nil] at q6
              exact ⟨F'', u'', acc', accV', hlt, by omega, L5, ra5, q6⟩
  · have e1 : i = xs.length := by omega
    subst e1
    refine .inl ⟨W.stop F' H' L.st.exF L.bs.ex, ?_⟩
    rw [List.drop_length] at q3
    have q3 : Φ (ret (.lst (acc ++ [])) u') := q3
    rw [List.append_nil] at q3
    exact fin _ _ _ _ _ _ L ra q3
end
section
variable {X : Cx} {ct : Nat → Addr} {E : L2.St → XK}
abbrev BPI (X : Cx) (ct : Nat → Addr) (scope : Scope) (tg iter : Expr) (t : DI) : Prop := ∀ (s : Shared) (H : Hp) (C : Addr) (cl : List (Str × Addr)) (fp : List Addr), PDI (X.blk s H scope (compEnvC scope cl C X.env) fp) ct E0' tg iter t
theorem pd_lc2 {elt tg iter tg1 iter1 : Expr} {ifs ifs1 : List Expr} {scope : Scope} {own : List (Str × Nat)} {vs1 : List Nat} {pos : Pos} {fi fi1 : DI} {g g1 : Tg} {t t1 : DB} {e : DE} (hc : X.calm = true) (hN : X.N.Nodup) (hT : ∀ i ∈ g.slots, i ∈ own.map (·.2)) (hT1 : ∀ i ∈ g1.slots, i ∈ vs1) (hi : PDI X ct E tg iter fi) (ok : BlkOk X.N X.env.scope scope own) (hv : ∀ i ∈ vs1, i ∈ own.map (·.2))
    (hg : BPG X scope tg g) (ht : BPT X ct scope ifs t) (hi1 : BPI X ct scope tg1 iter1 fi1) (hg1 : BPG X scope tg1 g1) (ht1 : BPT X ct scope ifs1 t1) (he : BPE X ct scope elt e) (hs : ∀ x, foldedSetIterable iter X.env x = pure x := by intro _; rfl) (hs1 : ∀ env x, foldedSetIterable iter1 env x = pure x := by intro _ _; rfl) :
    PD X ct E (.ListComp elt [⟨tg, iter, ifs, 0⟩, ⟨tg1, iter1, ifs1, 0⟩] scope pos) (dLc2 fi g t fi1 g1 t1 e (own.map (·.2)) vs1) := by
  refine PE.imp (pe_lc2 (tt := tG X.K ct rB E0' t) (wi1 := tG X.K ct (rI X.K ct) E0' fi1) (tt1 := tG X.K ct rB E0' t1) (te := tG X.K ct (rD X.K ct) E0' e) hc hN hi ok hv hg ht hi1 hg1 ht1 he hs hs1) ?_
  rintro σ H Q ⟨ua, F, ρ, u, R, q⟩
  refine tG_bind R q fun F1 J H1 xs u1 s1 R1 W q1 => ?_
  have hs : decide (xs.length ≤ 300) = true := by
    cases h : decide (xs.length ≤ 300) with
    | true => rfl
    | false => simp only [h, chk] at q1; exact (show False from q1).elim
  simp only [hs, chk, if_pos] at q1
  exact lc2_go (Φ := fun r => out X.K ct (rD X.K ct) ua F1 H1 (E σ) r Q) (fun h => h) hT hT1 R1 W (of_decide_eq_true hs) q1 fun F' u' H' A acc accV L ra q3 => q3 _ _ _ (L.done R1.urn) L.urn (.lst upd_same (ra.mono (Ex.new L.nd)))
end
end Dl
set_option Elab.async false
set_option linter.all false
set_option maxRecDepth 100000
set_option maxHeartbeats 4000000
/-! Dl20: targets of several names; zip of tuples; a comprehension of one's own. -/
namespace Dl
open PySem L2 Evl
/-- the scope of a block in a block -/
def compSc (psc sc : Scope) : Scope := { sc with names := sc.names.map fun (n, k) => if (k == NameKind.free && psc.kind == .function && psc.names.lookup n == some .cell) then (n, NameKind.cell) else (n, k) }
theorem u65 {k : Nat} {A : Around} (r : Room k A) : A.units + 65 < cLine := by have := r.un; omega
theorem PG.or {X : Cx} {t : Expr} {g g' : TG} (h : PG X t g) (h' : PG X t g') : PG X t (fun v σ H Q => g v σ H Q ∨ g' v σ H Q) := by
  refine ⟨fun pins s σ H v u Q I r hw => ?_⟩
  rcases hw with hw | hw
  · exact h.run pins s σ H v u Q I r hw
  · exact h'.run pins s σ H v u Q I r hw
theorem pg_tp {X : Cx} {es : List Expr} {is : List Nat} {k : Nat} {pos : Pos} (hc : X.calm = true) (h : PGs X es (gNames is))
    (hn : (assignEach es X.env).length = is.length := by rfl) (hst : (assignEach es X.env).findIdx? (·.1) = none := by rfl) : PG X (.Tuple es k pos) (tgG X.K (.tp is)) :=
  PG.or (pg_tup hc h hn hst) (pg_lst hc h hn hst)
theorem paE_tr {X : Cx} {E' : L2.St → XK} (tk : Takes X (fun cls d σ H => E' σ cls d H)) : PaE X E' := fun σ => passAt tk σ
theorem tChain_of {X : Cx} {ct : Nat → Addr} {E : L2.St → XK} {r r' : R2} {o o' : D → D → Option D} {f g h : DE} (ho : ROp X.K ct r o) (ho' : ROp X.K ct r' o') : ∀ σ H Q, tG X.K ct (rD X.K ct) E (dChain o o' f g h) σ H Q → tChain r r' (tG X.K ct (rD X.K ct) E f) (tG X.K ct (rD X.K ct) E g) (tG X.K ct (rD X.K ct) E h) σ H Q := by
  rintro σ H Q ⟨ua, F, ρ, u, R, q⟩
  refine tG_bind R q fun F1 v H1 x u1 s1 R1 r1 q1 => ?_
  refine tG_bind R1 q1 fun F2 w H2 y u2 s2 R2 r2 q2 => ?_
  cases hz : o x y with
  | none => rw [hz] at q2; exact (show False from q2).elim
  | some z =>
    refine ho ua F2 H2 u2 (fun _ _ _ => False) v w x y _ R2.toBs (r1.mono s2.exF) r2 ?_
    rw [hz] at q2 ⊢
    intro F3 v3 H3 s3 hu3 r3
    have R3 := R2.step s3 hu3
    have q3 := out.mono (r := chainK o' h ρ y z u2) R2.toBs q2 s3 hu3
    cases r3 <;> first | exact (show False from q3).elim | skip
    rename_i k
    refine ⟨k, rfl, ?_⟩
    cases k with
    | false => exact out.ret (u := u2) R3.toBs q3 (.bl false)
    | true =>
      rw [if_pos rfl]
      refine tG_bind R3 q3 fun F4 w4 H4 x4 u4 s4 R4 r4 q4 => ?_
      exact ho' ua F4 H4 u4 (E σ) w w4 y x4 Q R4.toBs ((r2.mono s3.exF).mono s4.exF) r4 q4
theorem pdb_chain {X : Cx} {ct : Nat → Addr} {E : L2.St → XK} {op op' : CmpOp} {a b c : Expr} {pos : Pos} {r r' : R2} {o o' : D → D → Option D} {f g h : DE} (hr : OpR X (compareOp op) r) (hr' : OpR X (compareOp op') r') (ho : ROp X.K ct r o) (ho' : ROp X.K ct r' o') (ha : PD X ct E a f) (hb : PD X ct E b g) (hc : PD X ct E c h)
    (hm : lastMarks [op, op'] [b, c] = false := by with_unfolding_all rfl) : PDB X ct E (.Compare a [op, op'] [b, c] pos) (dTst (dChain o o' f g h)) := by
  refine PT.imp (pt_chain hr hr' ha hb hc hm) fun σ H Q h => ?_
  obtain ⟨ua, F, ρ, u, R, q⟩ := h
  have q := tB_of (X := X) (ct := ct) (E := E) (f := dChain o o' f g _) σ H Q ⟨ua, F, ρ, u, R, q⟩
  exact tChain_of ho ho' σ H _ q
section
variable {X : Cx} {ct : Nat → Addr} {E : L2.St → XK}
theorem tLcN_of {wi : DI} {g : Tg} {t : DB} {e : DE} {vs : List Nat} (hT : ∀ i ∈ g.slots, i ∈ vs) : ∀ σ H Q, tN X.K ct E (dLc wi g t e vs) σ H Q → tLc (tG X.K ct (rI X.K ct) E wi) (tgG X.K g) (tG X.K ct rB E0' t) (tG X.K ct (rD X.K ct) E0' e) vs σ H Q := by
  rintro σ H Q ⟨ua, F, ρ, u, R, q⟩
  refine tN_bind R q fun F1 J H1 xs u1 s1 R1 W q1 => ?_
  have hs : small xs.length = true := by
    cases h : small xs.length with
    | true => rfl
    | false => simp only [h, chk] at q1; exact (show False from q1).elim
  simp only [hs, chk, if_pos] at q1
  exact lc_go (Φ := fun r => outN X.K ct ua F1 H1 (E σ) r Q) (fun h => h) hT R1 W hs q1 fun F' u' H' A acc accV L ra q3 => q3 _ _ _ L.st L.urn (L.ne R1.urn) L.nd L.nn ⟨accV, L.hd, ra⟩
theorem tSetN {i : Nat} {f : DE} {D : Ends} {σ : L2.St} {H : Hp} (h : tS X.K ct E (sSetN i f) D σ H) : tN X.K ct E f σ H (fun v H1 => gName i v σ H1 D.nx) := by
  obtain ⟨ua, F, ρ, u, O, P, R, o, q⟩ := h
  refine ⟨ua, F, ρ, u, R.toRE, ?_⟩
  unfold sSetN thenS at q
  cases ef : f ρ u with
  | no => rw [ef] at q; exact q
  | exc c gs u1 =>
    rw [ef] at q
    exact fun F' H' dd fs s hu hd h0 hf k r => q F' H' σ dd fs s.s (R.step s hu) (fun b z => .inl (o b z)) hd h0 hf k r
  | ok d u1 =>
    rw [ef] at q
    intro F1 a H1 s1 hu1 n1 n2 n3 o1
    dsimp only at q
    split at q
    · exact (show False from q).elim
    rename_i nb
    exact q F1 H1 _ s1.s ((R.step s1 hu1).setOwn (Bool.eq_false_iff.mpr nb) n1 n2 (not_own_new R.toRE n3) o1) fun b z => (own_setOwn z).elim (fun e => .inr (by rw [e]; exact n3)) fun z => .inl (o b z)
theorem psd_setLcN {i : Nat} {y : Str} {py : Pos} {elt tg iter : Expr} {ifs : List Expr} {scope : Scope} {own : List (Str × Nat)} {pos spos : Pos} {fi : DI} {g : Tg} {t : DB} {e : DE} (hc : X.calm = true) (hN : X.N.Nodup) (hy : X.N[i]? = some y) (hyl : X.env.scope.names.lookup y = some .local)
    (hsw : swapsWith (.ListComp elt [⟨tg, iter, ifs, 0⟩] scope pos) (some (.Name y py)) spos.line X.env = pure true) (hT : ∀ i ∈ g.slots, i ∈ own.map (·.2)) (hi : PDI X ct E tg iter fi) (ok : BlkOk X.N X.env.scope scope own)
    (hg : BPG X scope tg g) (ht : BPT X ct scope ifs t) (he : BPE X ct scope elt e) (hs : ∀ x, foldedSetIterable iter X.env x = pure x := by intro _; rfl) :
    PSD X ct E (.Assign [.Name y py] (.ListComp elt [⟨tg, iter, ifs, 0⟩] scope pos) spos) (sSetN i (dLc fi g t e (own.map (·.2)))) := by
  refine PS.imp (ps_setLc (tt := tG X.K ct rB E0' t) (te := tG X.K ct (rD X.K ct) E0' e) hc hN hy hyl hsw hi ok hg ht he hs) fun D σ H h => ?_
  exact tLcN_of hT σ H _ (tSetN h)
/-! zip of tuples -/
theorem walks_zipT {K : PySem.W.Frag} {ua : Addr} {F : Hp} {a a' : Addr} {vs vs' : List V} {xs ys : List D} (h : SqT K F a vs) (r : Reps K ct ua F vs xs) (h' : SqT K F a' vs') (r' : Reps K ct ua F vs' ys) : Walks K ct ua F (RZ.ItzT K a a') (zipD xs ys) where
  stop := fun F' H e1 e2 => ⟨vs, vs', ex_t (e1.trans e2) h, ex_t (e1.trans e2) h', by rw [r.length, r'.length, zip_len]; omega⟩
  go := fun i F' H hi e1 e2 => by
    rw [zip_len] at hi
    have hl : i < vs.length := by rw [r.length]; omega
    have hl' : i < vs'.length := by rw [r'.length]; omega
    exact ⟨vs, vs', vs[i], vs'[i], ex_t (e1.trans e2) h, ex_t (e1.trans e2) h', List.getElem?_eq_getElem hl, List.getElem?_eq_getElem hl'⟩
  yld := fun i x v F' u H H' hx e1 b y => by
    obtain ⟨T, z, z', rfl, hT, rfl, y, y'⟩ := y
    obtain ⟨d, d', hd, hd', rfl⟩ := zip_get _ _ _ _ hx
    obtain ⟨w, h1, h2⟩ := r.get' hd
    obtain ⟨w', h1', h2'⟩ := r'.get' hd'
    have e := y vs (ex_t (e1.trans b.ex) h)
    rw [h1] at e; have e := Option.some.inj e; subst e
    have e' := y' vs' (ex_t (e1.trans b.ex) h')
    rw [h1'] at e'; have e' := Option.some.inj e'; subst e'
    have ex : Ex F' (upd F' T (.tup [w, w'])) := Ex.new (fresh_back b.ex hT)
    exact ⟨_, Stp.new b hT, (Bs.new b hT).urn, .tup (st_of upd_same) (.cons ((h2.mono e1).mono ex) (.cons ((h2'.mono e1).mono ex) .nil))⟩
def oLs2A : List D → Option (List D)
  | [.lst xs, .lst ys] => some (zipD xs ys)
  | [.tup xs, .tup ys] => some (zipD xs ys)
  | _ => none
def dZipA (g : DA) : DI := fun ρ => bnd (g ρ) fun xs => opt (oLs2A xs)
theorem pdi_zipA {a a2 : Expr} {g : DA} {p pos tpos : Pos} {elts : List Expr} {kk : Nat} (hg : Gl X "zip") (hm : X.mg "zip" = none) (ha : PDA X ct E [a, a2] g)
    (hs : starEach [a, a2] X.env = (false, eval a X.env) :: starEach [a2] X.env := by rfl) (hpl : (backTo pos (starEach [a2] X.env)).any (·.1) = false := by rfl) : PDI X ct E (.Tuple elts kk tpos) (.Call (.Name "zip" p) [a, a2] [] pos) (dZipA g) := by
  refine PI.imp (RZ.pi_zipA hg hm ha hs hpl) fun σ H Q ⟨ua, F, ρ, u, R, q⟩ => ?_
  refine tG_bind R q fun F1 vs H1 xs u1 s1 R1 r1 q1 => ?_
  refine out_opt q1 fun d hd q2 => ?_
  match xs, hd with
  | [.lst ys, .lst zs], hd =>
    obtain ⟨v, w, rfl, rv, rw⟩ := reps2 r1
    cases rv with | lst h1 h2 =>
    cases rw with | lst h1' h2' =>
    cases hd
    exact ⟨_, _, _, _, rfl, .inl ⟨sq_of (R1.ex _ _ h1), sq_of (R1.ex _ _ h1'), out.ret R1.toBs q2 (walks_zip h1 h2 h1' h2')⟩⟩
  | [.tup ys, .tup zs], hd =>
    obtain ⟨v, w, rfl, rv, rw⟩ := reps2 r1
    cases rv with | tup h1 h2 =>
    cases rw with | tup h1' h2' =>
    cases hd
    exact ⟨_, _, _, _, rfl, .inr ⟨ex_t R1.ex h1, ex_t R1.ex h1', out.ret R1.toBs q2 (walks_zipT h1 h2 h1' h2')⟩⟩
end
end Dl
set_option Elab.async false
set_option linter.all false
set_option maxRecDepth 100000
set_option maxHeartbeats 4000000
/-! Dl21: the urn's numbers; xs.append(ys.pop(e)). -/
namespace Dl
open PySem L2 Evl
def U.get (u : U) (k : Int) : Option Int := if k = 0 then some u.a else if k = 1 then some u.b else if k = 2 then some u.c else none
def U.put (u : U) (k : Int) (z : Int) : Option U := if k = 0 then some { u with a := z } else if k = 1 then some { u with b := z } else if k = 2 then some { u with c := z } else none
section
variable {X : Cx} {ct : Nat → Addr} {E : L2.St → XK}
def dUrn (i : Nat) (k : Int) : DE := fun ρ u => match getV ρ i with
  | some .urn => match U.get u k with
    | some z => .ok (.int z) u
    | none => .no
  | _ => .no
theorem urn_at {u : U} {k z : Int} (h : U.get u k = some z) : atI ([.int u.a, .int u.b, .int u.c] : List V) k = some (.int z) := by
  unfold U.get at h
  split at h
  · rename_i e; subst e; cases h; rfl
  split at h
  · rename_i e; subst e; cases h; rfl
  split at h
  · rename_i e; subst e; cases h; rfl
  · cases h
theorem pd_urn {i : Nat} {x : Str} {k : Int} {p kp pos : Pos} {j} (he : PE X (.Name x p) (tVar i)) : PD X ct E (.Subscript (.Name x p) (.Constant (.int k) j kp) pos) (dUrn i k) := by
  refine PE.imp (pe_ix ix_list he pe_int (fun _ _ => rfl)) fun σ H Q ⟨ua, F, ρ, u, R, q⟩ => ?_
  unfold dUrn at q
  cases e : getV ρ i with
  | none => rw [e] at q; exact (show False from q).elim
  | some d =>
    rw [e] at q
    obtain ⟨v, h1, h2⟩ := R.vals i d (getV_some e)
    cases h2 <;> first | exact (show False from q).elim | skip
    dsimp only at q
    cases ez : U.get u k with
    | none => rw [ez] at q; exact (show False from q).elim
    | some z =>
      rw [ez] at q
      exact ⟨.ref ua, h1, ua, _, k, _, rfl, rfl, sq_of R.urn, urn_at ez, q F (.int z) H (Stp.refl R.toBs) R.urn (.int z)⟩
def sUrn (i : Nat) (k : Int) (f : DE) : DS := fun ρ u => thenS (f ρ u) ρ fun d u => match getV ρ i, d with
  | some .urn, .int z => match U.put u k z with
    | some u' => .nx ρ u'
    | none => .no
  | _, _ => .no
theorem urn_put {u u' : U} {k z : Int} (h : U.put u k z = some u') : ∃ j, ixN 3 k = some j ∧ ([.int u.a, .int u.b, .int u.c] : List V).set j (.int z) = [.int u'.a, .int u'.b, .int u'.c] := by
  unfold U.put at h
  split at h
  · rename_i e; subst e; cases h; exact ⟨0, rfl, rfl⟩
  split at h
  · rename_i e; subst e; cases h; exact ⟨1, rfl, rfl⟩
  split at h
  · rename_i e; subst e; cases h; exact ⟨2, rfl, rfl⟩
  · cases h
theorem stp_urn {ua : Addr} {F H : Hp} {u : U} {o : HO} (b : Bs ua F u H) : Stp ua F H F (upd H ua o) where
  exF := Ex.refl F
  exH := fun c w h => by
    have n : c ≠ ua := fun e => by rw [e, b.fu] at h; cases h
    rw [upd_ne n]; exact b.ex c w h
  nu := b.fu
  kp := fun c w n h => by rw [upd_ne n]; exact h
  fr := fun _ _ h => .inl h
theorem psd_urn {i : Nat} {x : Str} {k : Int} {e : Expr} {f : DE} {p kp sp pos : Pos} {j} (hx : PE X (.Name x p) (tVar i)) (he : PD X ct E e f)
    (hs : swapsWithSole [.Subscript (.Name x p) (.Constant (.int k) j kp) sp] e pos.line X.env = pure false := by rfl) (hw : swappedStores [.Subscript (.Name x p) (.Constant (.int k) j kp) sp] e X.env = pure none := by rfl) :
    PSD X ct E (.Assign [.Subscript (.Name x p) (.Constant (.int k) j kp) sp] e pos) (sUrn i k f) := by
  refine PS.imp (ps_asg he (pg_sub hx pe_int set_list) hs hw) fun D σ H ⟨ua, F, ρ, u, O, P, R, o, q⟩ => ?_
  refine tS_bind R o q fun F1 v H1 d u1 s1 R1 r1 q1 => ?_
  cases eg : getV ρ i with
  | none => rw [eg] at q1; exact (show False from q1).elim
  | some w =>
    rw [eg] at q1
    obtain ⟨vo, h1, h2⟩ := R1.vals i w (getV_some eg)
    cases h2 <;> first | exact (show False from q1).elim | skip
    cases r1 <;> first | exact (show False from q1).elim | skip
    rename_i z
    dsimp only at q1
    cases ep : U.put u1 k z with
    | none => rw [ep] at q1; exact (show False from q1).elim
    | some u' =>
      rw [ep] at q1
      obtain ⟨j, hj, hset⟩ := urn_put ep
      refine ⟨.ref ua, h1, ua, _, k, j, rfl, rfl, R1.urn, hj, ?_⟩
      have s2 := stp_urn (o := .lst [.int u'.a, .int u'.b, .int u'.c]) R1.toBs
      rw [hset]
      exact q1 F1 _ σ s2.s (R1.step s2 upd_same) fun b z => .inl (o b z)
/-! a def that calls itself: no call is left -/
theorem fnok0 {P : Program} {w : World} {K : PySem.W.Frag} {mg : Str → Option Value} {base : Heap} {CX : CXT} {f : Addr} {fd : FuncData} {ps : List Str} {n : Nat} : FnOk P w K mg base CX 0 f fd ps (spD K ct n (fun _ => stuck)) := by
  have no : ∀ vs H Q E, ¬ spD K ct n (fun _ => stuck) vs H Q E := fun vs H Q E h => by
    obtain ⟨_, _, _, _, _, _, _, q⟩ := h
    exact q
  exact ⟨fun vs H Q E h => absurd h (no vs H Q E), fun A outer s H args us vs Q E _ _ _ _ h => absurd h (no vs H Q E)⟩
/-- every parameter is given, though defaults stand -/
theorem bindsFull {K : PySem.W.Frag} {x qual : Str} {params : Arguments} {body : List Stmt} {scope : Scope} {dvs : List V} {f : Addr} {fd : FuncData} {ps : List Str} (F : L2.FunD K x qual params body scope dvs [] f fd) (hd : dvs ≠ [])
    (h : ∀ (T : Addr) (kV doc pm : Value) (an : Option Addr) (cdv ct : Value) (us its : List Value), us.length = ps.length → its.length = dvs.length → ∃ k, bindArgs (PySem.W.fnOf x qual params body scope (.ref T) kV doc pm an cdv ct) ⟨us, []⟩ = seqItems? (.ref T) >>= k ∧ k (some its.toArray) = pure (ps.zip us)) : Binds K fd ps [] := by
  obtain ⟨ds, hv, hb⟩ := F.binds1 (ps := ps) ps.length dvs.length hd (by omega) fun T kV doc pm an cdv ct us its h1 h2 => by
    obtain ⟨k, e1, e2⟩ := h T kV doc pm an cdv ct us its h1 h2
    refine ⟨k, e1, ?_⟩
    rw [← h2, List.drop_length, List.append_nil]
    exact e2
  rw [List.drop_length] at hv
  cases hv
  exact hb
/-! xs.append(ys.pop(e)) -/
def sAppPop (i j : Nat) (f : DE) : DS := fun ρ u => match getO ρ i, getO ρ j with
  | some (.lst as), some (.lst bs) => thenS (f ρ u) ρ fun k u => match oPopAt bs [k] with
    | some (x, bs') => if small as.length = true then .nx ((ρ.set j (.own (.lst bs'))).set i (.own (.lst (as ++ [x])))) u else .no
    | none => .no
  | _, _ => .no
theorem psd_appPop {i j : Nat} {x y : Str} {e : Expr} {f : DE} {p p2 apos apos2 cpos cpos2 pos : Pos} (hij : i ≠ j) (hx : PE X (.Name x p) (tVar i)) (hy : PE X (.Name y p2) (tVar j)) (he : PD X ct E e f)
    (hbase : attributeBase (.Name x p) "append" X.env (eval (.Name x p) X.env) = eval (.Name x p) X.env := by rfl) (hbase2 : attributeBase (.Name y p2) "pop" X.env (eval (.Name y p2) X.env) = eval (.Name y p2) X.env := by rfl)
    (hfew : ((backTo cpos (starEach [.Call (.Attribute (.Name y p2) "pop" apos2) [e] [] cpos2] X.env)).all (fun x => !x.1) && (backToKw cpos (keywordEach [] X.env)).all (fun x => x.1.isSome)
      && decide (([.Call (.Attribute (.Name y p2) "pop" apos2) [e] [] cpos2] : List Expr).length + ([] : List Keyword).length + (if ([] : List Keyword).isEmpty then 0 else 1) < 30)) = true := by rfl)
    (hfew2 : ((backTo cpos2 (starEach [e] X.env)).all (fun x => !x.1) && (backToKw cpos2 (keywordEach [] X.env)).all (fun x => x.1.isSome)
      && decide (([e] : List Expr).length + ([] : List Keyword).length + (if ([] : List Keyword).isEmpty then 0 else 1) < 30)) = true := by rfl)
    (hline : (apos.endLine == cpos.line) = true := by rfl) (hline2 : (apos2.endLine == cpos2.line) = true := by rfl)
    (hs : starEach [.Call (.Attribute (.Name y p2) "pop" apos2) [e] [] cpos2] X.env = (false, eval (.Call (.Attribute (.Name y p2) "pop" apos2) [e] [] cpos2) X.env) :: starEach [] X.env := by rfl) (hs2 : starEach [e] X.env = (false, eval e X.env) :: starEach [] X.env := by rfl)
    (hpl : (backTo cpos (starEach [] X.env)).any (·.1) = false := by rfl) (hpl2 : (backTo cpos2 (starEach [] X.env)).any (·.1) = false := by rfl)
    (hsw : swapsWith (.Call (.Attribute (.Name x p) "append" apos) [.Call (.Attribute (.Name y p2) "pop" apos2) [e] [] cpos2] [] cpos) none pos.line X.env = pure false := by rfl) :
    PSD X ct E (.Expr (.Call (.Attribute (.Name x p) "append" apos) [.Call (.Attribute (.Name y p2) "pop" apos2) [e] [] cpos2] [] cpos) pos) (sAppPop i j f) := by
  refine PS.imp (ps_expr (pe_bm PySem.F.plainAttrs_list PySem.F.slot_list_append PySem.F.type_list_append mt_append hx (pa_cons (pe_bm PySem.F.plainAttrs_list PySem.F.slot_list_pop PySem.F.type_list_pop mt_popAt hy (pa_cons he pa_nil hs2) hbase2 hfew2 hline2 hs2 hpl2) pa_nil hs) hbase hfew hline hs hpl) hsw) fun D σ H ⟨ua, F, ρ, u, O, P, R, o, q⟩ => ?_
  unfold sAppPop at q
  cases ei : getO ρ i with
  | none => rw [ei] at q; exact (show False from q).elim
  | some da =>
    cases ej : getO ρ j with
    | none => rw [ei, ej] at q; cases da <;> exact (show False from q).elim
    | some db =>
      rw [ei, ej] at q
      cases da <;> first | exact (show False from q).elim | skip
      cases db <;> first | exact (show False from q).elim | skip
      rename_i as bs
      dsimp only at q
      have hi := getO_some ei
      have hj := getO_some ej
      obtain ⟨a, ha, na1, na2, vs, hva, rva⟩ := R.owns i _ hi
      obtain ⟨b, hb, nb1, nb2, ws, hvb, rvb⟩ := R.owns j _ hj
      refine ⟨.ref a, ha, .inl ⟨rfl, vs, .inl (.inl hva)⟩, .ref b, hb, .inl ⟨rfl, ws, .inl (.inl hvb)⟩, ?_⟩
      refine tS_bind R o q fun F1 kv H1 k u1 s1 R1 r1 q1 => ?_
      cases eo : oPopAt bs [k] with
      | none => rw [eo] at q1; exact (show False from q1).elim
      | some xb =>
        obtain ⟨x, bs'⟩ := xb
        rw [eo] at q1
        dsimp only at q1
        split at q1
        · rename_i hsm
          refine rom_popAt ua F1 H1 u1 b ws [kv] bs [k] bs' x _ R1.toBs (s1.kp b _ nb1 hvb) (rvb.mono s1.exF) (.cons r1 .nil) eo fun v vs' rx rs => ?_
          have R2 := R1.change (d' := .lst bs') (o' := .lst vs') (fun h => by cases h) hj hb ⟨vs', upd_same, rs⟩
          have n1 := (R1.own_some ⟨j, _, hj, hb⟩)
          have sc := stS_change (o' := .lst vs') R1.toBs n1.1 n1.2.1 (o b ⟨j, _, hj, hb⟩)
          have o2 : ∀ c, Own (ρ.set j (.own (.lst bs'))) σ c → O c := fun c z => o c (own_change hj z)
          have hi2 : (ρ.set j (.own (.lst bs')))[i]? = some (.own (.lst as)) := by rw [List.getElem?_set_ne (Ne.symm hij)]; exact hi
          have q2 := q1.shift R1.toBs (O1 := O) sc R2.urn fun _ z => .inl z
          obtain ⟨a', ha', _, _, vs2, hva2, rva2⟩ := R2.owns i _ hi2
          rw [ha] at ha'; cases ha'
          refine rom_app ua F1 _ u1 a vs2 [v] as [x] (as ++ [x]) .non _ R2.toBs hva2 rva2 (.cons rx .nil) (by show chk _ _ = _; unfold chk; rw [if_pos hsm]) fun v3 vs3 rn rs3 => ?_
          exact end_change (d' := .lst (as ++ [x])) (fun h => by cases h) R2 o2 hi2 ha ⟨vs3, upd_same, rs3⟩ q2
        · exact (show False from q1).elim
end
end Dl
set_option Elab.async false
set_option linter.all false
set_option maxRecDepth 100000
set_option maxHeartbeats 4000000
/-! Dl22: own special methods: len, in, [k], signs, !=. -/
namespace Dl
open PySem L2 Evl
section
variable {X : Cx} {ct : Nat → Addr} {E : L2.St → XK} {k : Nat} {f : Addr} {fd : FuncData} {ps : List Str} {n c : Nat} {m : DF} {a b e : Expr} {pos p : Pos} {ga gb ge : DE}
/-- the two operands, one behind the other -/
theorem duo {pins : List (Addr × Obj)} {s : Shared} {σ : L2.St} {ua : Addr} {F H : Hp} {ρ : En} {u : U} {Q : VK} {kk : D → D → M D} {G : Value → Value → Shared → Prop} (I : Inv X pins σ H s) (R : RE X.K ct ua F ρ u σ H)
    (q : out X.K ct (rD X.K ct) ua F H (E σ) (bnd (ga ρ) (fun x => bnd (gb ρ) (kk x)) u) Q) (ha : PD X ct E a ga) (hb : PD X ct E b gb)
    (fin : ∀ s2 H2 F2 x y u2 v w d1 d2, Inv X pins σ H2 s2 → RE X.K ct ua F2 ρ u2 σ H2 → RelV x v → RelV y w → Rep X.K ct ua F2 x d1 → Rep X.K ct ua F2 y d2 → out X.K ct (rD X.K ct) ua F2 H2 (E σ) (kk d1 d2 u2) Q → G v w s2) :
    wpAny (model X.prog X.w) X.A (eval a X.env) (fun v s1 => wpAny (model X.prog X.w) X.A (eval b X.env) (fun w s2 => G v w s2) X.xe s1) X.xe s := by
  refine thn (ha.run pins s σ H (fun x H1 => ∃ F1 d u1, Stp ua F H F1 H1 ∧ RE X.K ct ua F1 ρ u1 σ H1 ∧ Rep X.K ct ua F1 x d ∧ out X.K ct (rD X.K ct) ua F1 H1 (E σ) (bnd (gb ρ) (kk d) u1) Q) I ?_) fun v s1 ⟨x, H1, I1, rx, F1, d1, u1, s1', R1, r1, q1⟩ => ?_
  · exact tG_bind (rel' := rD X.K ct) R q fun F1 v H1 x u1 s1 R1 r1 q1 => ⟨F1, x, u1, s1, R1, r1, q1⟩
  refine thn (hb.run pins s1 σ H1 (fun y H2 => ∃ F2 d2 u2, Stp ua F1 H1 F2 H2 ∧ RE X.K ct ua F2 ρ u2 σ H2 ∧ Rep X.K ct ua F2 y d2 ∧ out X.K ct (rD X.K ct) ua F2 H2 (E σ) (kk d1 d2 u2) Q) I1 ?_) fun w s2 ⟨y, H2, I2, ry, F2, d2, u2, s2', R2, r2, q2⟩ => ?_
  · exact tG_bind (rel' := rD X.K ct) R1 q1 fun F2 v H2 y u2 s2 R2 r2 q2 => ⟨F2, y, u2, s2, R2, r2, q2⟩
  exact fin s2 H2 F2 x y u2 v w d1 d2 I2 R2 rx ry (r1.mono s2'.exF) r2 q2
/-- a call below a built-in -/
theorem run_in1 {pins : List (Addr × Obj)} {σ : L2.St} {H : Hp} {s : Shared} {Q : VK} {us : List Value} {vs : List V} {sp : Sp} (F : FnOk X.prog X.w X.K X.mg X.base (L2.CX X.prog X.w) k f fd ps sp) (hr : Room (k + 1) X.A) (hb : Binds X.K fd ps []) (hx : PassesAt (L2.CX X.prog X.w) X σ (E σ))
    (I : Inv X pins σ H s) (r : Vals vs us) (h : sp vs H Q (E σ)) : wpAny (model X.prog X.w) X.A.in1 (call (.ref f) us) (EP X pins σ Q) X.xe s := by
  have hl : (us ++ []).length = ps.length := by rw [List.append_nil, ← r.length]; exact F.len _ _ _ _ h
  have r2 : Vals vs (us ++ []) := by rw [List.append_nil]; exact r
  refine wpAny_call (codeAny_mono (F.run X.A.in1 X.stack s H ⟨us, []⟩ (us ++ []) vs Q (E σ) hr.in1 I.env0.in1 (hb s us I.kIn hl) r2 h) fun r s' hq => ?_)
  cases r with
  | error e => exact hx pins H s e s' I hq
  | ok fl =>
    cases fl with
    | ret u => exact I.after hq
    | next => exact False.elim hq
    | brk => exact False.elim hq
    | cont => exact False.elim hq
/-- an answer that is looked at -/
theorem out_look {K : PySem.W.Frag} {ua : Addr} {F H : Hp} {E : XK} {Q : VK} {mm : M D} {o : D → Option D} {u : U} (h : out K ct (rD K ct) ua F H E (bnd mm (fun r => opt (o r)) u) Q) :
    out K ct (rD K ct) ua F H E (mm u) (fun v H' => ∃ F' d d' u', Stp ua F H F' H' ∧ Urn ua u' H' ∧ Rep K ct ua F' v d ∧ o d = some d' ∧ ∀ v', Rep K ct ua F' v' d' → Q v' H') := by
  unfold bnd at h
  cases e : mm u with
  | no => rw [e] at h; exact h
  | exc c gs u' => rw [e] at h; exact h
  | ok d u' =>
    rw [e] at h
    dsimp only at h
    unfold opt at h
    cases eo : o d with
    | none => rw [eo] at h; exact h.elim
    | some d' =>
      rw [eo] at h
      exact fun F' v H' st hu r => ⟨F', d, d', u', st, hu, r, eo, fun v' r' => h F' v' H' st hu r'⟩
def isB : D → Option D
  | .bl b => some (.bl b)
  | _ => none
def isLen : D → Option D
  | .int i => chk (decide (0 ≤ i ∧ i < 2 ^ 63)) (.int i)
  | _ => none
/-- where an own object stands -/
theorem own_at {pins : List (Addr × Obj)} {s : Shared} {σ : L2.St} {ua : Addr} {F H : Hp} {x : V} {v : Value} {gs : List (Str × D)} (I : Inv X pins σ H s) (ex : Ex F H) (rx : RelV x v) (r : Rep X.K ct ua F x (.obj c gs)) :
    ∃ p ox od, v = .ref p ∧ x = .ref p ∧ PySem.W.InstAt s.heap p ox (ct c) od := by
  cases r with
  | @obj p dx _ fs _ h1 h2 h3 =>
    obtain rfl : v = Value.ref p := rx
    obtain ⟨mA, O, _⟩ := ins_get I.hok (ex _ _ h1)
    obtain ⟨od, J, _⟩ := O.look
    exact ⟨p, _, od, rfl, rfl, J⟩
/-- len(e), e of the class c -/
def dLenOwn (c : Nat) (m : DF) (f : DE) : DE := fun ρ => bnd (f ρ) fun x => if isOf c x = true then bnd (m [x]) fun r => opt (isLen r) else stuck
theorem pd_lenOwn (hg : Gl X "len") (hm : X.mg "len" = none) (he : PD X ct E e ge) (F : FnOk X.prog X.w X.K X.mg X.base (L2.CX X.prog X.w) k f fd ps (spD X.K ct 1 m)) (hr : Room (k + 1) X.A) (hb : Binds X.K fd ps []) (hx : PaE X E)
    (hs : PySem.W.findIn X.K (.ref (ct c)) "__len__" = some (some (.ref f))) (hf : PySem.W.isFn X.K (.ref f) = true)
    (hst : starEach [e] X.env = (false, eval e X.env) :: starEach [] X.env := by rfl) (hpl : (backTo pos (starEach [] X.env)).any (·.1) = false := by rfl) :
    PD X ct E (.Call (.Name "len" p) [e] [] pos) (dLenOwn c m ge) := by
  refine ⟨fun pins s σ H Q I ⟨ua, F0, ρ, u, R, q⟩ => ?_⟩
  refine wpAny_Call_Name_kw (ld_blt I hg hm PySem.boot_len ?_ (by decide) (by decide))
  refine PyProof.Rows.callWith_builtin1 ?_ hst hpl
  refine PyProof.Rows.spliced_more (thn (he.run pins s σ H (fun x H1 => ∃ F1 d u1, Stp ua F0 H F1 H1 ∧ RE X.K ct ua F1 ρ u1 σ H1 ∧ Rep X.K ct ua F1 x d ∧ out X.K ct (rD X.K ct) ua F1 H1 (E σ) ((if isOf c d = true then bnd (m [d]) fun r => opt (isLen r) else stuck) u1) Q) I ?_) fun v s1 ⟨x, H1, I1, rx, F1, d, u1, s1', R1, r1, q1⟩ => ?_) hst
  · exact tG_bind (rel' := rD X.K ct) R q fun F1 v H1 x u1 s1 R1 r1 q1 => ⟨F1, x, u1, s1, R1, r1, q1⟩
  refine PyProof.Rows.spliced_none ?_
  split at q1
  · rename_i hc
    obtain ⟨gs, rfl⟩ := isOf_some hc
    obtain ⟨p, ox, od, rfl, rfl, J⟩ := own_at I1 R1.ex rx r1
    obtain ⟨m', hF⟩ := I1.fr
    refine PySem.W.len_K hF I1.ok.mod.kin J hs hf ?_
    refine wpAny_mono (run_in1 (us := [.ref p]) (vs := [.ref p]) F hr hb (hx σ) I1 (.cons rfl .nil) ⟨ua, F1, u1, _, R1.toBs, .cons r1 .nil, rfl, out_look q1⟩) (fun r s' h => ?_) fun _ _ z => z
    obtain ⟨v, H', I', rv, F', d, d', u', st, hu, rd, ho, hq⟩ := h
    cases d <;> first | (cases ho; done) | skip
    rename_i i
    cases rd
    obtain ⟨t, rfl⟩ := rv
    obtain ⟨hbd, rfl⟩ := chk_some (show chk _ _ = some d' from ho)
    have hbd := of_decide_eq_true hbd
    exact ⟨hbd, .int i, H', I'.tok _, ⟨_, rfl⟩, hq _ (.int i)⟩
  · exact (show False from q1).elim
/-- b in a (or not), a of the class c -/
def dInOwn (neg : Bool) (c : Nat) (m : DF) (f g : DE) : DE := fun ρ => bnd (f ρ) fun x => bnd (g ρ) fun y => if isOf c y = true then bnd (m [y, x]) fun r => opt ((isB r).bind fun z => match z with | .bl b => some (.bl (xor neg b)) | _ => none) else stuck
theorem pd_inOwn {neg : Bool} {op : CmpOp} (ho : op = if neg = true then .NotIn else .In) (ha : PD X ct E a ga) (hb : PD X ct E b gb) (F : FnOk X.prog X.w X.K X.mg X.base (L2.CX X.prog X.w) k f fd ps (spD X.K ct 2 m)) (hr : Room k X.A) (hbn : Binds X.K fd ps []) (hx : PaE X E)
    (hs : PySem.W.findIn X.K (.ref (ct c)) "__contains__" = some (some (.ref f))) (hf : PySem.W.isFn X.K (.ref f) = true) (hm : behindInMarks op b = false) : PD X ct E (.Compare a [op] [b] pos) (dInOwn neg c m ga gb) := by
  refine ⟨fun pins s σ H Q I ⟨ua, F0, ρ, u, R, q⟩ => ?_⟩
  refine wpAny_Compare1 (duo I R q ha hb fun s2 H2 F2 x y u2 v w d1 d2 I2 R2 rx ry r1 r2 q2 => ?_) hm
  split at q2
  · rename_i hc
    obtain ⟨gs, rfl⟩ := isOf_some hc
    obtain ⟨p, ox, od, rfl, rfl, J⟩ := own_at I2 R2.ex ry r2
    obtain ⟨m', hF⟩ := I2.fr
    have q3 := out_look q2
    have run := run_fnSD (us := [.ref p, v]) (vs := [.ref p, x]) (ds := []) F hr hbn .nil (hx σ) I2 (.cons rfl (.cons rx .nil)) ⟨ua, F2, u2, _, R2.toBs, .cons r2 (.cons r1 .nil), rfl, q3⟩
    subst ho
    cases neg with
    | false =>
      refine PySem.W.in_K hF I2.ok.mod.kin J hs hf (wpAny_mono run (fun r s' h => ?_) fun _ _ z => z)
      obtain ⟨v, H', I', rv, F', d, d', u', st, hu, rd, ho, hq⟩ := h
      cases d <;> first | (cases ho; done) | skip
      rename_i bb
      cases rd
      obtain rfl : r = .bool bb := rv
      cases ho
      rw [Bool.false_xor] at hq
      exact wpAny_truthy_bool ⟨.bl bb, H', I', rfl, hq _ (.bl bb)⟩
    | true =>
      refine PySem.W.notIn_K hF I2.ok.mod.kin J hs hf (wpAny_mono run (fun r s' h => ?_) fun _ _ z => z)
      obtain ⟨v, H', I', rv, F', d, d', u', st, hu, rd, ho, hq⟩ := h
      cases d <;> first | (cases ho; done) | skip
      rename_i bb
      cases rd
      obtain rfl : r = .bool bb := rv
      cases ho
      rw [Bool.true_xor] at hq
      exact wpAny_truthy_bool ⟨.bl (!bb), H', I', rfl, hq _ (.bl (!bb))⟩
  · exact (show False from q2).elim
/-- a[b], a of the class c -/
def dIxOwn (c : Nat) (m : DF) (f g : DE) : DE := fun ρ => bnd (f ρ) fun x => bnd (g ρ) fun y => if isOf c x = true then m [x, y] else stuck
theorem pd_ixOwn (ha : PD X ct E a ga) (hb : PD X ct E b gb) (F : FnOk X.prog X.w X.K X.mg X.base (L2.CX X.prog X.w) k f fd ps (spD X.K ct 2 m)) (hr : Room (k + 1) X.A) (hbn : Binds X.K fd ps []) (hx : PaE X E)
    (hs : PySem.W.findIn X.K (.ref (ct c)) "__getitem__" = some (some (.ref f))) (hf : PySem.W.fnIn X.K f = true) (hfn : PySem.W.isFn X.K (.ref f) = true)
    (hsl : ∀ v w, subscripted b true v w = runValue (.builtin "lifetime.subscript" ⟨[v, w], []⟩) := by exact fun _ _ => by with_unfolding_all rfl) : PD X ct E (.Subscript a b pos) (dIxOwn c m ga gb) := by
  refine ⟨fun pins s σ H Q I ⟨ua, F0, ρ, u, R, q⟩ => ?_⟩
  refine PyProof.Rows.Subscript_ (duo I R q ha hb fun s2 H2 F2 x y u2 v w d1 d2 I2 R2 rx ry r1 r2 q2 => ?_)
  split at q2
  · rename_i hc
    obtain ⟨gs, rfl⟩ := isOf_some hc
    obtain ⟨p, ox, od, rfl, rfl, J⟩ := own_at I2 R2.ex rx r1
    obtain ⟨m', hF⟩ := I2.fr
    exact PySem.W.sub_K hF I2.ok.mod.kin J hs hf hfn (run_in1 (us := [.ref p, w]) (vs := [.ref p, y]) F hr hbn (hx σ) I2 (.cons rfl (.cons ry .nil)) ⟨ua, F2, u2, _, R2.toBs, .cons r1 (.cons r2 .nil), rfl, q2⟩) (hsl _ _)
  · exact (show False from q2).elim
/-- a op b, both of the class c -/
def dBinOwn (c : Nat) (m : DF) (f g : DE) : DE := fun ρ => bnd (f ρ) fun x => bnd (g ρ) fun y => if isOf c x = true ∧ isOf c y = true then m [x, y] else stuck
theorem pd_binOwn {op : Operator} (ha : PD X ct E a ga) (hb : PD X ct E b gb) (F : FnOk X.prog X.w X.K X.mg X.base (L2.CX X.prog X.w) k f fd ps (spD X.K ct 2 m)) (hr : Room k X.A) (hbn : Binds X.K fd ps []) (hx : PaE X E)
    (hc : PySem.W.selfFirst X.K (ct c) = true) (hs : PySem.W.findIn X.K (.ref (ct c)) (PySem.dunder op.info.2) = some (some (.ref f))) (hf : PySem.W.isFn X.K (.ref f) = true) : PD X ct E (.BinOp a op b pos) (dBinOwn c m ga gb) := by
  refine ⟨fun pins s σ H Q I ⟨ua, F0, ρ, u, R, q⟩ => ?_⟩
  refine wpAny_BinOp (duo I R q ha hb fun s2 H2 F2 x y u2 v w d1 d2 I2 R2 rx ry r1 r2 q2 => ?_)
  split at q2
  · rename_i hcc
    obtain ⟨gs, rfl⟩ := isOf_some hcc.1
    obtain ⟨gs2, rfl⟩ := isOf_some hcc.2
    obtain ⟨p, ox, od, rfl, rfl, J⟩ := own_at I2 R2.ex rx r1
    obtain ⟨p2, ox2, od2, rfl, rfl, J2⟩ := own_at I2 R2.ex ry r2
    obtain ⟨m', hF⟩ := I2.fr
    refine PySem.W.binop_K hF I2.ok.mod.kin J J2.type hc hs hf ?_
    exact wpAny_mono (run_fnSD (us := [.ref p, .ref p2]) (vs := [.ref p, .ref p2]) (ds := []) F hr hbn .nil (hx σ) I2 (.cons rfl (.cons rfl .nil)) ⟨ua, F2, u2, _, R2.toBs, .cons r1 (.cons r2 .nil), rfl, q2⟩) (fun u' s' h => back_rel h) fun _ _ z => z
  · exact (show False from q2).elim
end
end Dl
set_option Elab.async false
set_option linter.all false
set_option maxRecDepth 100000
set_option maxHeartbeats 4000000
/-! Dl23: calls by keywords. -/
namespace Dl
open PySem L2 Evl
/-- the items at these places -/
def prm {α : Type} : List Nat → List α → Option (List α)
  | [], _ => some []
  | i :: is, l => match l[i]?, prm is l with
    | some x, some r => some (x :: r)
    | _, _ => none
theorem prm_cons {α : Type} {i : Nat} {is : List Nat} {l r : List α} (h : prm (i :: is) l = some r) : ∃ x r', l[i]? = some x ∧ prm is l = some r' ∧ r = x :: r' := by
  unfold prm at h
  cases e1 : l[i]? with
  | none => rw [e1] at h; cases h
  | some x =>
    cases e2 : prm is l with
    | none => rw [e1, e2] at h; cases h
    | some r' => rw [e1, e2] at h; cases h; exact ⟨x, r', rfl, rfl, rfl⟩
theorem prm_len {α : Type} : ∀ {is : List Nat} {l r : List α}, prm is l = some r → r.length = is.length
  | [], _, _, h => by cases h; rfl
  | i :: is, l, r, h => by
    obtain ⟨x, r', _, h2, rfl⟩ := prm_cons h
    rw [List.length_cons, List.length_cons, prm_len h2]
theorem vals_get : ∀ {vs : List V} {us : List Value} {i : Nat} {v : V}, Vals vs us → vs[i]? = some v → ∃ u, us[i]? = some u ∧ RelV v u
  | _, _, _, _, .nil, e => by simp at e
  | _, _, 0, _, .cons r _, e => by simp at e; subst e; exact ⟨_, rfl, r⟩
  | _, _, i + 1, v, .cons _ t, e => by
    obtain ⟨d, h1, h2⟩ := vals_get (i := i) (v := v) t (by simpa using e)
    exact ⟨d, by simpa using h1, h2⟩
theorem vals_prm {vs : List V} {us : List Value} (r : Vals vs us) : ∀ {is : List Nat} {zs : List V}, prm is vs = some zs → ∃ rs, prm is us = some rs ∧ Vals zs rs
  | [], _, h => by cases h; exact ⟨[], rfl, .nil⟩
  | i :: is, zs, h => by
    obtain ⟨x, r', h1, h2, rfl⟩ := prm_cons h
    obtain ⟨u, h3, h4⟩ := vals_get r h1
    obtain ⟨rs, h5, h6⟩ := vals_prm r h2
    exact ⟨u :: rs, by unfold prm; rw [h3, h5], .cons h4 h6⟩
theorem reps_prm {K : PySem.W.Frag} {ct : Nat → Addr} {ua : Addr} {F : Hp} {vs : List V} {ds : List D} (r : Reps K ct ua F vs ds) : ∀ {is : List Nat} {zs : List D}, prm is ds = some zs → ∃ rs, prm is vs = some rs ∧ Reps K ct ua F rs zs
  | [], _, h => by cases h; exact ⟨[], rfl, .nil⟩
  | i :: is, zs, h => by
    obtain ⟨x, r', h1, h2, rfl⟩ := prm_cons h
    obtain ⟨u, h3, h4⟩ := r.get' h1
    obtain ⟨rs, h5, h6⟩ := reps_prm r h2
    exact ⟨u :: rs, by unfold prm; rw [h3, h5], .cons h4 h6⟩
/-- how n values and the keywords ks bind -/
structure KB (K : PySem.W.Frag) (fd : FuncData) (ps : List Str) (n : Nat) (ks : List Str) (is : List Nat) : Prop where
  to : ∀ (s : Shared) (us ws : List Value), K.In s.heap → us.length = n → ws.length = ks.length → ∀ rs, prm is (us ++ ws) = some rs → BindsTo s fd ⟨us, ks.zip ws⟩ (ps.zip rs)
section
variable {K : PySem.W.Frag} {x qual : Str} {params : Arguments} {body : List Stmt} {scope : Scope} {dvs : List V} {f : Addr} {fd : FuncData} {ps ks : List Str} {n : Nat} {is : List Nat}
theorem kbN (F : L2.FunD K x qual params body scope [] [] f fd)
    (h : ∀ (kV doc pm : Value) (an : Option Addr) (cdv ct : Value) (us ws : List Value), us.length = n → ws.length = ks.length → ∃ rs, prm is (us ++ ws) = some rs ∧ bindArgs (PySem.W.fnOf x qual params body scope .none kV doc pm an cdv ct) ⟨us, ks.zip ws⟩ = pure (ps.zip rs)) : KB K fd ps n ks is := by
  obtain ⟨oc, od, dV, kV, doc, pm, an, cdv, ct, osl, rfl, lk, hcd, hD, hK⟩ := F.ex
  rcases hD with ⟨_, rfl⟩ | ⟨e, _⟩
  · refine ⟨fun s us ws X l1 l2 rs hrs => ?_⟩
    obtain ⟨rs', h1, h2⟩ := h kV doc pm an cdv ct us ws l1 l2
    rw [h1] at hrs
    cases hrs
    exact .of_eq h2
  · exact absurd rfl e
theorem kbD (F : L2.FunD K x qual params body scope dvs [] f fd) (hd : dvs ≠ [])
    (h : ∀ (T : Addr) (kV doc pm : Value) (an : Option Addr) (cdv ct : Value) (us its ws : List Value), us.length = n → its.length = dvs.length → ws.length = ks.length → ∃ rs, prm is (us ++ ws) = some rs ∧
      ∃ k, bindArgs (PySem.W.fnOf x qual params body scope (.ref T) kV doc pm an cdv ct) ⟨us, ks.zip ws⟩ = seqItems? (.ref T) >>= k ∧ k (some its.toArray) = pure (ps.zip rs)) : KB K fd ps n ks is := by
  obtain ⟨oc, od, dV, kV, doc, pm, an, cdv, ct, osl, rfl, lk, hcd, hD, hK⟩ := F.ex
  rcases hD with ⟨e, _⟩ | ⟨_, T, o, its, m, rfl, lT, oT, rT⟩
  · exact absurd e hd
  · refine ⟨fun s us ws X l1 l2 rs hrs => ?_⟩
    obtain ⟨rs', h1, k, e1, e2⟩ := h T kV doc pm an cdv ct us its ws l1 rT.length.symm l2
    rw [h1] at hrs
    cases hrs
    refine BindsTo.of_looks fun M => ?_
    rw [e1]
    exact looks_items X lT oT (.of_pure e2)
end
/-! the keywords' values -/
def PDK (X : Cx) (ct : Nat → Addr) (E : L2.St → XK) (kws : List Keyword) (f : DA) : Prop := PK X kws (tG X.K ct (rA X.K ct) E f)
/-- the positional values, then the keywords', in the parameters' order -/
def dKw (is : List Nat) (g h : DA) : DA := fun ρ => bnd (g ρ) fun xs => bnd (h ρ) fun ys => opt (prm is (xs ++ ys))
def tKw (n m : Nat) (is : List Nat) (t tk : TA) : TA := fun σ H Q => t σ H fun vs H1 => tk σ H1 fun zs H2 => vs.length = n ∧ zs.length = m ∧ ∃ rs, prm is (vs ++ zs) = some rs ∧ Q rs H2
section
variable {X : Cx} {ct : Nat → Addr} {E : L2.St → XK} {k : Nat} {f C p' : Addr} {fd : FuncData} {ps ks : List Str} {n nn c : Nat} {m : DF} {mi : DFI} {x nm : Str} {p p1 pos apos kpos : Pos} {e o : Expr} {es : List Expr} {kws : List Keyword} {g gk : DA} {go fe : DE} {is : List Nat} {kn : Option Str}
theorem PK.imp {kws : List Keyword} {t t' : TA} (h : PK X kws t) (k : ∀ σ H Q, t' σ H Q → t σ H Q) : PK X kws t' := ⟨fun pos pins s σ H Q I q => h.run pos pins s σ H Q I (k σ H Q q)⟩
theorem pdk_nil : PDK X ct E [] dNil := PK.imp pk_nil fun σ H Q ⟨ua, F, ρ, u, R, q⟩ => out.ret R.toBs q .nil
theorem pdk_cons (he : PD X ct E e fe) (hs : PDK X ct E kws gk) : PDK X ct E (⟨kn, e, kpos⟩ :: kws) (dCons fe gk) := by
  refine PK.imp (pk_cons he hs) fun σ H Q ⟨ua, F, ρ, u, R, q⟩ => ?_
  refine tG_bind R q fun F1 v H1 x u1 s1 R1 r1 q1 => ?_
  refine tG_bind R1 q1 fun F2 vs H2 xs u2 s2 R2 r2 q2 => ?_
  exact out.ret R2.toBs q2 (.cons (r1.mono s2.exF) r2)
theorem kw_imp {K : PySem.W.Frag} {m : Nat} (l1 : LenA nn g) (l2 : LenA m gk) : ∀ σ H Q, tG K ct (rA K ct) E (dKw is g gk) σ H Q → tKw nn m is (tG K ct (rA K ct) E g) (tG K ct (rA K ct) E gk) σ H Q := by
  rintro σ H Q ⟨ua, F, ρ, u, R, q⟩
  refine ⟨ua, F, ρ, u, R, ?_⟩
  unfold dKw bnd at q
  cases eg : g ρ u with
  | no => rw [eg] at q; exact q
  | exc c gs u1 => rw [eg] at q; exact q
  | ok xs u1 =>
    rw [eg] at q
    intro F1 vs H1 s hu r
    have R1 := R.step s hu
    refine ⟨ua, F1, ρ, u1, R1, ?_⟩
    dsimp only at q
    cases eg2 : gk ρ u1 with
    | no => rw [eg2] at q; exact q
    | exc c gs u2 => rw [eg2] at q; exact out.mono (r := .exc c gs u2) R.toBs q s hu
    | ok ys u2 =>
      rw [eg2] at q
      intro F2 zs H2 s2 hu2 r2
      have R2 := R1.step s2 hu2
      refine ⟨by rw [r.length]; exact l1 _ _ _ _ eg, by rw [r2.length]; exact l2 _ _ _ _ eg2, ?_⟩
      have q3 : out K ct (rA K ct) ua F2 H2 (E σ) (opt (prm is (xs ++ ys)) u2) Q := by
        have q : out K ct (rA K ct) ua F H (E σ) (opt (prm is (xs ++ ys)) u2) Q := q
        exact out.mono (r := opt (prm is (xs ++ ys)) u2) R1.toBs (out.mono (r := opt (prm is (xs ++ ys)) u2) R.toBs q s hu) s2 hu2
      refine out_opt q3 fun rs hrs q4 => ?_
      obtain ⟨rs', h1, h2⟩ := reps_prm ((r.mono s2.exF).append r2) hrs
      exact ⟨rs', h1, out.ret R2.toBs q4 h2⟩
theorem lenA_kw : LenA is.length (dKw is g gk) := fun ρ u xs u' h => by
  unfold dKw bnd at h
  cases eg : g ρ u with
  | no => rw [eg] at h; cases h
  | exc c gs u1 => rw [eg] at h; cases h
  | ok xs' u1 =>
    rw [eg] at h
    dsimp only at h
    cases eg2 : gk ρ u1 with
    | no => rw [eg2] at h; cases h
    | exc c gs u2 => rw [eg2] at h; cases h
    | ok ys u2 =>
      rw [eg2] at h
      dsimp only at h
      unfold opt at h
      cases ep : prm is (xs' ++ ys) with
      | none => rw [ep] at h; cases h
      | some rs => rw [ep] at h; cases h; exact prm_len ep
/-! what runs -/
theorem run_fnKw {pins : List (Addr × Obj)} {σ : L2.St} {H : Hp} {s : Shared} {Q : VK} {us ws : List Value} {vs : List V} {rs : List Value} {sp : Sp} (F : FnOk X.prog X.w X.K X.mg X.base (L2.CX X.prog X.w) k f fd ps sp) (hr : Room k X.A) (hb : KB X.K fd ps nn ks is) (hx : PassesAt (L2.CX X.prog X.w) X σ (E σ))
    (I : Inv X pins σ H s) (l1 : us.length = nn) (l2 : ws.length = ks.length) (hrs : prm is (us ++ ws) = some rs) (r : Vals vs rs) (h : sp vs H Q (E σ)) : wpAny (model X.prog X.w) X.A (call (.ref f) us (ks.zip ws)) (EP X pins σ Q) X.xe s := by
  refine wpAny_call (codeAny_mono (F.run X.A X.stack s H ⟨us, ks.zip ws⟩ rs vs Q (E σ) hr I.env0 (hb.to s us ws I.kIn l1 l2 rs hrs) r h) fun r s' hq => ?_)
  cases r with
  | error e => exact hx pins H s e s' I hq
  | ok fl =>
    cases fl with
    | ret u => exact I.after hq
    | next => exact False.elim hq
    | brk => exact False.elim hq
    | cont => exact False.elim hq
theorem run_makeKw {pins : List (Addr × Obj)} {σ : L2.St} {H : Hp} {s : Shared} {Q : VK} {us ws : List Value} {vs : List V} {rs : List Value} {sp : Sp} (M : Mk X.K C f) (F : FnOk X.prog X.w X.K X.mg X.base (L2.CX X.prog X.w) k f fd ps sp) (hr : Room (k + 1) X.A) (hb : KB X.K fd ps (nn + 1) ks (0 :: is.map (· + 1)))
    (hx : PassesAt (L2.CX X.prog X.w) X σ (E σ)) (I : Inv X pins σ H s) (l1 : us.length = nn) (l2 : ws.length = ks.length) (hrs : prm is (us ++ ws) = some rs) (r : Vals vs rs)
    (h : ∀ x dx, H x = none → H dx = none → dx ≠ x → sp (.ref x :: (vs ++ [])) (upd (upd H dx (.own x)) x (.ins C dx [])) (fun v H2 => v = .non ∧ Q (.ref x) H2) (E σ)) :
    wpAny (model X.prog X.w) X.A (call (.ref C) us (ks.zip ws)) (EP X pins σ Q) X.xe s := by
  have hq := h (s.heap.objs.size + 1) s.heap.objs.size (I.hok.fresh (Nat.le_succ _)) (I.hok.fresh (Nat.le_refl _)) (Nat.ne_of_lt (Nat.lt_succ_self _))
  rw [List.append_nil] at hq
  have I2 := Inv.made (C := C) I
  have r2 : Vals (V.ref (s.heap.objs.size + 1) :: vs) (Value.ref (s.heap.objs.size + 1) :: rs) := .cons rfl r
  have sh : ∀ {α : Type} (a : α) (l : List α) (is : List Nat), prm (is.map (· + 1)) (a :: l) = prm is l := by
    intro α a l is
    induction is with
    | nil => rfl
    | cons i is ih => rw [List.map_cons]; unfold prm; rw [ih, List.getElem?_cons_succ]
  have e3 : prm (0 :: is.map (· + 1)) ((Value.ref (s.heap.objs.size + 1) :: us) ++ ws) = some (Value.ref (s.heap.objs.size + 1) :: rs) := by
    rw [List.cons_append]
    unfold prm
    rw [sh, hrs]; rfl
  refine wpAny_call (make_map (f := f) I.kIn M.makes M.init (beq_iff_eq.mp M.fn) (codeAny_mono (F.run _ X.stack _ _ ⟨Value.ref (s.heap.objs.size + 1) :: us, ks.zip ws⟩ (Value.ref (s.heap.objs.size + 1) :: rs) _ _ (E σ) (hr.make C us (ks.zip ws))
    (I2.env0.make C us (ks.zip ws)) (hb.to _ (Value.ref (s.heap.objs.size + 1) :: us) ws I2.kIn (by rw [List.length_cons, l1]) l2 _ e3) r2 hq) fun r s' hq' => ?_))
  cases r with
  | error e => exact hx pins _ _ e s' I2 hq'
  | ok fl =>
    cases fl with
    | ret u =>
      obtain ⟨v, H', I3, rv, ev, q3⟩ := I2.after hq'
      subst ev
      exact ⟨rv, ⟨V.ref (s.heap.objs.size + 1), H', I3, rfl, q3⟩⟩
    | next => exact False.elim hq'
    | brk => exact False.elim hq'
    | cont => exact False.elim hq'
/-! the rules -/
/-- f(k = v, ..) -/
theorem pd_callKw0 (F : FnOk X.prog X.w X.K X.mg X.base (L2.CX X.prog X.w) k f fd ps (spD X.K ct n m)) (hr : Room k X.A) (hg : Gl X x) (hm : X.mg x = some (.ref f)) (hk : PySem.W.keepIn X.K (.ref f) = true) (hb : KB X.K fd ps 0 ks is) (hx : PaE X E)
    (hkw : PDK X ct E kws gk) (hl : LenA ks.length gk) (hn : is.length = n) (hall : (backToKw pos (keywordEach kws X.env)).all (·.1.isSome) = true := by rfl) (hks : (backToKw pos (keywordEach kws X.env)).filterMap (·.1) = ks := by rfl) (hdb : (x == ("__debug__" : Str)) = false := by decide)
    (hpl : ((backTo pos (starEach [] X.env)).any (·.1) || (backToKw pos (keywordEach kws X.env)).any (·.1.isNone)) = false := by rfl) : PD X ct E (.Call (.Name x p) [] kws pos) (dCallF m [] (dKw is dNil gk)) := by
  refine PE.imp (t := fun σ H Q => tKw 0 ks.length is tNil (tG X.K ct (rA X.K ct) E gk) σ H fun vs H1 => spD X.K ct n m vs H1 Q (E σ)) ⟨fun pins s σ H Q I h => ?_⟩ fun σ H Q h => ?_
  · refine wpAny_Call_Name_kw (ld_glob I hg hm ?_ hdb)
    refine PySem.W.callWith_KW0 (h₀ := X.base) I.ok.mod.kin hk hall (thn (hkw.run pos pins s σ H _ I h) fun ws s2 ⟨zs, H2, I2, rz, l1, l2, rs, hp, q2⟩ => ⟨I2.kIn, ?_⟩) hpl
    rw [hks]
    obtain ⟨rs', h3, h4⟩ := vals_prm (Vals.append .nil rz) hp
    exact run_fnKw F hr hb (hx σ) I2 rfl (rz.length.symm.trans l2) h3 h4 q2
  · obtain ⟨ua, F0, ρ, u, R, q⟩ := h
    have q : tG X.K ct (rA X.K ct) E (dKw is dNil gk) σ H (fun vs H1 => spD X.K ct n m vs H1 Q (E σ)) := by
      refine ⟨ua, F0, ρ, u, R, ?_⟩
      have q : out X.K ct (rD X.K ct) ua F0 H (E σ) (bnd (dKw is dNil gk ρ) (fun xs => m (xs ++ [])) u) Q := q
      unfold bnd at q
      cases eg : dKw is dNil gk ρ u with
      | no => rw [eg] at q; exact q
      | exc c gs u1 => rw [eg] at q; exact q
      | ok xs u1 =>
        rw [eg] at q
        dsimp only at q
        rw [List.append_nil] at q
        intro F1 vs H1 s hu r
        exact ⟨ua, F1, u1, xs, (R.step s hu).toBs, r, by rw [lenA_kw _ _ _ _ eg]; exact hn, out.mono (r := m xs u1) R.toBs q s hu⟩
    obtain ⟨ua, F0, ρ, u, R, q⟩ := kw_imp (nn := 0) lenA_nil hl σ H _ q
    exact out.ret R.toBs q .nil
/-- f(e, .., k = v, ..) -/
theorem pd_callKw (F : FnOk X.prog X.w X.K X.mg X.base (L2.CX X.prog X.w) k f fd ps (spD X.K ct n m)) (hr : Room k X.A) (hg : Gl X x) (hm : X.mg x = some (.ref f)) (hk : PySem.W.keepIn X.K (.ref f) = true) (hb : KB X.K fd ps (e :: es).length ks is) (hx : PaE X E)
    (ha : PDA X ct E (e :: es) g) (hla : LenA (e :: es).length g) (hkw : PDK X ct E kws gk) (hl : LenA ks.length gk) (hn : is.length = n) (hall : (backToKw pos (keywordEach kws X.env)).all (·.1.isSome) = true := by rfl) (hks : (backToKw pos (keywordEach kws X.env)).filterMap (·.1) = ks := by rfl) (hdb : (x == ("__debug__" : Str)) = false := by decide)
    (he : starEach (e :: es) X.env = (false, eval e X.env) :: starEach es X.env := by rfl) (hpl : ((backTo pos (starEach (e :: es) X.env)).any (·.1) || (backToKw pos (keywordEach kws X.env)).any (·.1.isNone)) = false := by rfl) : PD X ct E (.Call (.Name x p) (e :: es) kws pos) (dCallF m [] (dKw is g gk)) := by
  refine PE.imp (t := fun σ H Q => tKw (e :: es).length ks.length is (tG X.K ct (rA X.K ct) E g) (tG X.K ct (rA X.K ct) E gk) σ H fun vs H1 => spD X.K ct n m vs H1 Q (E σ)) ⟨fun pins s σ H Q I h => ?_⟩ fun σ H Q h => ?_
  · refine wpAny_Call_Name_kw (ld_glob I hg hm ?_ hdb)
    refine PySem.W.callWith_KW (h₀ := X.base) I.ok.mod.kin hk hall (thn (ha.run pos pins s σ H _ I h) fun us s1 ⟨vs, H1, I1, r, q⟩ => ?_) hpl he
    refine thn (hkw.run pos pins s1 σ H1 _ I1 q) fun ws s2 ⟨zs, H2, I2, rz, l1, l2, rs, hp, q2⟩ => ⟨I2.kIn, ?_⟩
    rw [hks]
    obtain ⟨rs', h3, h4⟩ := vals_prm (r.append rz) hp
    exact run_fnKw F hr hb (hx σ) I2 (r.length.symm.trans l1) (rz.length.symm.trans l2) h3 h4 q2
  · obtain ⟨ua, F0, ρ, u, R, q⟩ := h
    refine kw_imp hla hl σ H _ ⟨ua, F0, ρ, u, R, ?_⟩
    have q : out X.K ct (rD X.K ct) ua F0 H (E σ) (bnd (dKw is g gk ρ) (fun xs => m (xs ++ [])) u) Q := q
    unfold bnd at q
    cases eg : dKw is g gk ρ u with
    | no => rw [eg] at q; exact q
    | exc c gs u1 => rw [eg] at q; exact q
    | ok xs u1 =>
      rw [eg] at q
      dsimp only at q
      rw [List.append_nil] at q
      intro F1 vs H1 s hu r
      exact ⟨ua, F1, u1, xs, (R.step s hu).toBs, r, by rw [lenA_kw _ _ _ _ eg]; exact hn, out.mono (r := m xs u1) R.toBs q s hu⟩
/-- C(k = v, ..) -/
theorem pd_makeKw0 (M : Mk X.K (ct c) f) (F : FnOk X.prog X.w X.K X.mg X.base (L2.CX X.prog X.w) k f fd ps (spI X.K ct c n mi)) (hr : Room (k + 1) X.A) (hg : Gl X x) (hm : X.mg x = some (.ref (ct c))) (hb : KB X.K fd ps 1 ks (0 :: is.map (· + 1))) (hx : PaE X E)
    (hkw : PDK X ct E kws gk) (hl : LenA ks.length gk) (hn : is.length + 1 = n) (hall : (backToKw pos (keywordEach kws X.env)).all (·.1.isSome) = true := by rfl) (hks : (backToKw pos (keywordEach kws X.env)).filterMap (·.1) = ks := by rfl) (hdb : (x == ("__debug__" : Str)) = false := by decide)
    (hpl : ((backTo pos (starEach [] X.env)).any (·.1) || (backToKw pos (keywordEach kws X.env)).any (·.1.isNone)) = false := by rfl) : PD X ct E (.Call (.Name x p) [] kws pos) (dMake c mi [] (dKw is dNil gk)) := by
  refine PE.imp (t := tMakeSD (ct c) (spI X.K ct c n mi) [] E (tKw 0 ks.length is tNil (tG X.K ct (rA X.K ct) E gk))) ⟨fun pins s σ H Q I h => ?_⟩ (make_imp defOk0 (fun ρ u xs u' h => by rw [lenA_kw _ _ _ _ h]; exact hn) fun σ H Q h => ?_)
  · refine wpAny_Call_Name_kw (ld_glob I hg hm ?_ hdb)
    refine PySem.W.callWith_KW0 (h₀ := X.base) I.ok.mod.kin M.kp hall (thn (hkw.run pos pins s σ H _ I h) fun ws s2 ⟨zs, H2, I2, rz, l1, l2, rs, hp, q2⟩ => ⟨I2.kIn, ?_⟩) hpl
    rw [hks]
    obtain ⟨rs', h3, h4⟩ := vals_prm (Vals.append .nil rz) hp
    exact run_makeKw M F hr hb (hx σ) I2 rfl (rz.length.symm.trans l2) h3 h4 q2
  · obtain ⟨ua, F0, ρ, u, R, q⟩ := kw_imp (nn := 0) lenA_nil hl σ H _ h
    exact out.ret R.toBs q .nil
/-- C(e, .., k = v, ..) -/
theorem pd_makeKw (M : Mk X.K (ct c) f) (F : FnOk X.prog X.w X.K X.mg X.base (L2.CX X.prog X.w) k f fd ps (spI X.K ct c n mi)) (hr : Room (k + 1) X.A) (hg : Gl X x) (hm : X.mg x = some (.ref (ct c))) (hb : KB X.K fd ps ((e :: es).length + 1) ks (0 :: is.map (· + 1))) (hx : PaE X E)
    (ha : PDA X ct E (e :: es) g) (hla : LenA (e :: es).length g) (hkw : PDK X ct E kws gk) (hl : LenA ks.length gk) (hn : is.length + 1 = n) (hall : (backToKw pos (keywordEach kws X.env)).all (·.1.isSome) = true := by rfl) (hks : (backToKw pos (keywordEach kws X.env)).filterMap (·.1) = ks := by rfl) (hdb : (x == ("__debug__" : Str)) = false := by decide)
    (he : starEach (e :: es) X.env = (false, eval e X.env) :: starEach es X.env := by rfl) (hpl : ((backTo pos (starEach (e :: es) X.env)).any (·.1) || (backToKw pos (keywordEach kws X.env)).any (·.1.isNone)) = false := by rfl) : PD X ct E (.Call (.Name x p) (e :: es) kws pos) (dMake c mi [] (dKw is g gk)) := by
  refine PE.imp (t := tMakeSD (ct c) (spI X.K ct c n mi) [] E (tKw (e :: es).length ks.length is (tG X.K ct (rA X.K ct) E g) (tG X.K ct (rA X.K ct) E gk))) ⟨fun pins s σ H Q I h => ?_⟩ (make_imp defOk0 (fun ρ u xs u' h => by rw [lenA_kw _ _ _ _ h]; exact hn) (kw_imp hla hl))
  refine wpAny_Call_Name_kw (ld_glob I hg hm ?_ hdb)
  refine PySem.W.callWith_KW (h₀ := X.base) I.ok.mod.kin M.kp hall (thn (ha.run pos pins s σ H _ I h) fun us s1 ⟨vs, H1, I1, r, q⟩ => ?_) hpl he
  refine thn (hkw.run pos pins s1 σ H1 _ I1 q) fun ws s2 ⟨zs, H2, I2, rz, l1, l2, rs, hp, q2⟩ => ⟨I2.kIn, ?_⟩
  rw [hks]
  obtain ⟨rs', h3, h4⟩ := vals_prm (r.append rz) hp
  exact run_makeKw M F hr hb (hx σ) I2 (r.length.symm.trans l1) (rz.length.symm.trans l2) h3 h4 q2
/-- o.m(k = v, ..) -/
theorem pd_methKw0 {pl : Sem Bool} (he : PD X ct E o go) (c' : Cls X.K (ct c)) (hm : Meth X.K (ct c) nm f) (F : FnOk X.prog X.w X.K X.mg X.base (L2.CX X.prog X.w) k f fd ps (spD X.K ct n m)) (hr : Room k X.A) (hb : KB X.K fd ps 1 ks (0 :: is.map (· + 1))) (hx : PaE X E)
    (hkw : PDK X ct E kws gk) (hl : LenA ks.length gk) (hn : is.length + 1 = n) (hall : (backToKw pos (keywordEach kws X.env)).all (·.1.isSome) = true := by rfl) (hks : (backToKw pos (keywordEach kws X.env)).filterMap (·.1) = ks := by rfl)
    (hpl : ((backTo pos (starEach [] X.env)).any (·.1) || (backToKw pos (keywordEach kws X.env)).any (·.1.isNone)) = false := by rfl)
    (ht : eval (.Call (.Attribute o nm apos) [] kws pos) X.env = (do
      let ov ← eval o X.env
      standAt apos.atName
      let (f, first) ← holding [ov] (getMethod ov nm pl)
      callWith pos f first (backTo pos (starEach [] X.env)) (backToKw pos (keywordEach kws X.env))) := by rfl) : PD X ct E (.Call (.Attribute o nm apos) [] kws pos) (dMeth c nm m [] go (dKw is dNil gk)) := by
  refine PE.imp (t := tMethSD (ct c) nm (spD X.K ct n m) [] E (tG X.K ct (rD X.K ct) E go) (tKw 0 ks.length is tNil (tG X.K ct (rA X.K ct) E gk))) ⟨fun pins s σ H Q I h => ?_⟩ (tMeth_of rfl defOk0 (fun ρ u xs u' h => by rw [lenA_kw _ _ _ _ h]; exact hn) fun σ H Q h => ?_)
  · refine PySem.W.methodCall_KW (pl := pl) (thn (he.run pins s σ H _ I h) fun u s1 ⟨x, H1, I1, rx, a, dx, fs, ex, ea, l, q⟩ => ?_) ht
    subst ex
    obtain rfl : u = Value.ref a := rx
    refine getmeth_ok I1 ea c' hm l ?_
    refine PySem.W.callWith_KW0 (first := [.ref a]) (h₀ := X.base) I1.ok.mod.kin hm.kp hall (thn (hkw.run pos pins s1 σ H1 _ I1 q) fun ws s2 ⟨zs, H2, I2, rz, l1, l2, rs, hp, q2⟩ => ⟨I2.kIn, ?_⟩) hpl
    rw [hks]
    obtain ⟨rs', h3, h4⟩ := vals_prm (Vals.append .nil rz) hp
    have sh : ∀ {α : Type} (a : α) (l : List α) (is : List Nat), prm (is.map (· + 1)) (a :: l) = prm is l := by
      intro α a l is
      induction is with
      | nil => rfl
      | cons i is ih => rw [List.map_cons]; unfold prm; rw [ih, List.getElem?_cons_succ]
    have e3 : prm (0 :: is.map (· + 1)) ([Value.ref a] ++ ws) = some (Value.ref a :: rs') := by
      rw [List.singleton_append]
      have h3 : prm is ws = some rs' := h3
      unfold prm
      rw [sh, h3]; rfl
    have q2 : spD X.K ct n m (V.ref a :: (rs ++ [])) H2 Q (E σ) := q2
    rw [List.append_nil] at q2
    exact run_fnKw (us := [.ref a]) (vs := .ref a :: rs) (E := E) F hr hb (hx σ) I2 rfl (rz.length.symm.trans l2) e3 (.cons rfl h4) q2
  · obtain ⟨ua, F0, ρ, u, R, q⟩ := kw_imp (nn := 0) lenA_nil hl σ H _ h
    exact out.ret R.toBs q .nil
/-- C.m(k = v, ..), m static -/
theorem pd_staticKw0 {pl : Sem Bool} (T : Stat X.K C nm p' f) (F : FnOk X.prog X.w X.K X.mg X.base (L2.CX X.prog X.w) k f fd ps (spD X.K ct n m)) (hr : Room k X.A) (hb : KB X.K fd ps 0 ks is) (hx : PaE X E) (hkw : PDK X ct E kws gk) (hl : LenA ks.length gk) (hn : is.length = n)
    (hgx : Gl X x) (hm : X.mg x = some (.ref C)) (hall : (backToKw pos (keywordEach kws X.env)).all (·.1.isSome) = true := by rfl) (hks : (backToKw pos (keywordEach kws X.env)).filterMap (·.1) = ks := by rfl) (hdb : (x == ("__debug__" : Str)) = false := by decide)
    (hpl : ((backTo pos (starEach [] X.env)).any (·.1) || (backToKw pos (keywordEach kws X.env)).any (·.1.isNone)) = false := by rfl)
    (ht : eval (.Call (.Attribute (.Name x p1) nm apos) [] kws pos) X.env = (do
      let ov ← eval (.Name x p1) X.env
      standAt apos.atName
      let (f, first) ← holding [ov] (getMethod ov nm pl)
      callWith pos f first (backTo pos (starEach [] X.env)) (backToKw pos (keywordEach kws X.env))) := by rfl) :
    PD X ct E (.Call (.Attribute (.Name x p1) nm apos) [] kws pos) (dCallF m [] (dKw is dNil gk)) := by
  refine PE.imp (t := fun σ H Q => tKw 0 ks.length is tNil (tG X.K ct (rA X.K ct) E gk) σ H fun vs H1 => spD X.K ct n m vs H1 Q (E σ)) ⟨fun pins s σ H Q I h => ?_⟩ fun σ H Q h => ?_
  · obtain ⟨rest, hrc⟩ := T.rc
    refine PySem.W.methodCall_KW (pl := pl) (ld_glob I hgx hm ?_ hdb) ht
    refine PySem.W.method_cls I.kIn T.hg ?_
    refine PySem.W.cls_bind I.kIn T.rd T.fc ?_
    refine wpAny_call (PySem.W.sm_get (I.tok (s.toks + 1)).kIn hrc ?_)
    refine PySem.W.handed_on rfl ?_
    have I1 := I.tok (s.toks + 1)
    refine PySem.W.callWith_KW0 (first := []) (h₀ := X.base) I.ok.mod.kin T.kp hall (thn (hkw.run pos pins _ σ H _ I1 h) fun ws s2 ⟨zs, H2, I2, rz, l1, l2, rs, hp, q2⟩ => ⟨I2.kIn, ?_⟩) hpl
    rw [hks]
    obtain ⟨rs', h3, h4⟩ := vals_prm (Vals.append .nil rz) hp
    exact run_fnKw F hr hb (hx σ) I2 rfl (rz.length.symm.trans l2) h3 h4 q2
  · obtain ⟨ua, F0, ρ, u, R, q⟩ := h
    have q : tG X.K ct (rA X.K ct) E (dKw is dNil gk) σ H (fun vs H1 => spD X.K ct n m vs H1 Q (E σ)) := by
      refine ⟨ua, F0, ρ, u, R, ?_⟩
      have q : out X.K ct (rD X.K ct) ua F0 H (E σ) (bnd (dKw is dNil gk ρ) (fun xs => m (xs ++ [])) u) Q := q
      unfold bnd at q
      cases eg : dKw is dNil gk ρ u with
      | no => rw [eg] at q; exact q
      | exc c gs u1 => rw [eg] at q; exact q
      | ok xs u1 =>
        rw [eg] at q
        dsimp only at q
        rw [List.append_nil] at q
        intro F1 vs H1 s hu r
        exact ⟨ua, F1, u1, xs, (R.step s hu).toBs, r, by rw [lenA_kw _ _ _ _ eg]; exact hn, out.mono (r := m xs u1) R.toBs q s hu⟩
    obtain ⟨ua, F0, ρ, u, R, q⟩ := kw_imp (nn := 0) lenA_nil hl σ H _ q
    exact out.ret R.toBs q .nil
end
end Dl
set_option Elab.async false
set_option linter.all false
set_option maxRecDepth 100000
set_option maxHeartbeats 4000000
/-! Dl24: lending of what holds none of the own kinds; freezing some; new things more; !=; what is never reached. -/
namespace Dl
open PySem L2 Evl
/-! ### no list (l), no dict (dd), no own object (oo) within -/
mutual
def noK (l dd oo : Bool) : D → Bool
  | .lst xs => !l && noKs l dd oo xs
  | .tup xs => noKs l dd oo xs
  | .dct kvs => !dd && noKv l dd oo kvs
  | .obj _ fs => !oo && noKf l dd oo fs
  | .exc _ fs => noKf l dd oo fs
  | .non => true | .bl _ => true | .int _ => true | .str _ => true | .urn => true
def noKs (l dd oo : Bool) : List D → Bool
  | [] => true
  | x :: xs => noK l dd oo x && noKs l dd oo xs
def noKv (l dd oo : Bool) : List (Key × D) → Bool
  | [] => true
  | (_, x) :: xs => noK l dd oo x && noKv l dd oo xs
def noKf (l dd oo : Bool) : List (Str × D) → Bool
  | [] => true
  | (_, x) :: xs => noK l dd oo x && noKf l dd oo xs
end
mutual
theorem noK0 : ∀ d : D, noK false false false d = true
  | .lst xs => by unfold noK; rw [noKs0 xs]; rfl
  | .tup xs => by unfold noK; exact noKs0 xs
  | .dct kvs => by unfold noK; rw [noKv0 kvs]; rfl
  | .obj _ fs => by unfold noK; rw [noKf0 fs]; rfl
  | .exc _ fs => by unfold noK; exact noKf0 fs
  | .non => by unfold noK; rfl
  | .bl _ => by unfold noK; rfl
  | .int _ => by unfold noK; rfl
  | .str _ => by unfold noK; rfl
  | .urn => by unfold noK; rfl
theorem noKs0 : ∀ ds : List D, noKs false false false ds = true
  | [] => by unfold noKs; rfl
  | x :: xs => by unfold noKs; rw [noK0 x, noKs0 xs]; rfl
theorem noKv0 : ∀ ds : List (Key × D), noKv false false false ds = true
  | [] => by unfold noKv; rfl
  | (_, x) :: xs => by unfold noKv; rw [noK0 x, noKv0 xs]; rfl
theorem noKf0 : ∀ ds : List (Str × D), noKf false false false ds = true
  | [] => by unfold noKf; rfl
  | (_, x) :: xs => by unfold noKf; rw [noK0 x, noKf0 xs]; rfl
end
theorem noKv_map (l dd oo : Bool) : ∀ ds : List (Key × D), noKv l dd oo ds = noKs l dd oo (ds.map (·.2))
  | [] => by unfold noKv noKs; rfl
  | (_, x) :: xs => by rw [List.map_cons]; unfold noKv noKs; rw [noKv_map l dd oo xs]
theorem noKf_map (l dd oo : Bool) : ∀ ds : List (Str × D), noKf l dd oo ds = noKs l dd oo (ds.map (·.2))
  | [] => by unfold noKf noKs; rfl
  | (_, x) :: xs => by rw [List.map_cons]; unfold noKf noKs; rw [noKf_map l dd oo xs]
section
variable {K : PySem.W.Frag} {ct : Nat → Addr} {ua : Addr} {F1 F2 : Hp} {l dd oo : Bool}
/-- what stood in F1 stands in F2, but for lists (l), dicts (dd), own objects (oo) -/
def KeepK (F1 F2 : Hp) (l dd oo : Bool) : Prop := ∀ b o, F1 b = some o → F2 b = some o ∨ (l = true ∧ ∃ vs, o = .lst vs) ∨ (dd = true ∧ ∃ kvs, o = .dK kvs) ∨ (oo = true ∧ ∃ C dx fs, o = .ins C dx fs)
theorem KeepK.lst {vs : List V} {a : Addr} (k : KeepK F1 F2 l dd oo) (h : F1 a = some (.lst vs)) (hl : (!l) = true) : F2 a = some (.lst vs) := by
  rcases k _ _ h with z | ⟨z, _⟩ | ⟨_, _, e⟩ | ⟨_, _, _, _, e⟩
  · exact z
  · rw [z] at hl; cases hl
  · cases e
  · cases e
theorem KeepK.dct {kvs : List (Key × V)} {a : Addr} (k : KeepK F1 F2 l dd oo) (h : F1 a = some (.dK kvs)) (hl : (!dd) = true) : F2 a = some (.dK kvs) := by
  rcases k _ _ h with z | ⟨_, _, e⟩ | ⟨z, _⟩ | ⟨_, _, _, _, e⟩
  · exact z
  · cases e
  · rw [z] at hl; cases hl
  · cases e
theorem KeepK.ins {C dx a : Addr} {fs : List (Str × V)} (k : KeepK F1 F2 l dd oo) (h : F1 a = some (.ins C dx fs)) (hl : (!oo) = true) : F2 a = some (.ins C dx fs) := by
  rcases k _ _ h with z | ⟨_, _, e⟩ | ⟨_, _, e⟩ | ⟨z, _⟩
  · exact z
  · cases e
  · cases e
  · rw [z] at hl; cases hl
theorem KeepK.other {o : HO} {a : Addr} (k : KeepK F1 F2 l dd oo) (h : F1 a = some o) (h1 : ∀ vs, o ≠ .lst vs) (h2 : ∀ vs, o ≠ .dK vs) (h3 : ∀ C dx fs, o ≠ .ins C dx fs) : F2 a = some o := by
  rcases k _ _ h with z | ⟨_, _, e⟩ | ⟨_, _, e⟩ | ⟨_, _, _, _, e⟩
  · exact z
  · exact absurd e (h1 _)
  · exact absurd e (h2 _)
  · exact absurd e (h3 _ _ _)
mutual
theorem Rep.noK (k : KeepK F1 F2 l dd oo) : ∀ {v : V} {d : D}, Rep K ct ua F1 v d → noK l dd oo d = true → Rep K ct ua F2 v d
  | _, _, .non, _ => .non
  | _, _, .bl b, _ => .bl b
  | _, _, .int i, _ => .int i
  | _, _, .str x, _ => .str x
  | _, _, .lst h hs, hn => by
    unfold Dl.noK at hn
    rw [Bool.and_eq_true] at hn
    exact .lst (k.lst h hn.1) (Reps.noK k hs hn.2)
  | _, _, .tup h hs, hn => by
    unfold Dl.noK at hn
    refine .tup ?_ (Reps.noK k hs hn)
    rcases h with (h | ⟨o, h⟩) | h
    · exact .inl (.inl (k.other h (fun _ e => by cases e) (fun _ e => by cases e) (fun _ _ _ e => by cases e)))
    · exact .inl (.inr ⟨o, k.other h (fun _ e => by cases e) (fun _ e => by cases e) (fun _ _ _ e => by cases e)⟩)
    · exact .inr h
  | _, _, .dct h n q hs, hn => by
    unfold Dl.noK at hn
    rw [Bool.and_eq_true, noKv_map] at hn
    exact .dct (k.dct h hn.1) n q (Reps.noK k hs hn.2)
  | _, _, .obj h q hs, hn => by
    unfold Dl.noK at hn
    rw [Bool.and_eq_true, noKf_map] at hn
    exact .obj (k.ins h hn.1) q (Reps.noK k hs hn.2)
  | _, _, .exc h1 h2 q hs, hn => by
    unfold Dl.noK at hn
    rw [noKf_map] at hn
    exact .exc (k.other h1 (fun _ e => by cases e) (fun _ e => by cases e) (fun _ _ _ e => by cases e)) (k.other h2 (fun _ e => by cases e) (fun _ e => by cases e) (fun _ _ _ e => by cases e)) q (Reps.noK k hs hn)
  | _, _, .urn, _ => .urn
theorem Reps.noK (k : KeepK F1 F2 l dd oo) : ∀ {vs : List V} {ds : List D}, Reps K ct ua F1 vs ds → noKs l dd oo ds = true → Reps K ct ua F2 vs ds
  | _, _, .nil, _ => .nil
  | _, _, .cons h hs, hn => by
    unfold noKs at hn
    rw [Bool.and_eq_true] at hn
    exact .cons (Rep.noK k h hn.1) (Reps.noK k hs hn.2)
end
end
def ownL (ρ : En) : Bool := ρ.any fun s => match s with | .own (.lst _) => true | _ => false
def ownD (ρ : En) : Bool := ρ.any fun s => match s with | .own (.dct _) => true | _ => false
def ownO (ρ : En) : Bool := ρ.any fun s => match s with | .own (.obj _ _) => true | _ => false
section
variable {K : PySem.W.Frag} {ct : Nat → Addr} {ua : Addr} {F F1 F2 H H1 : Hp} {ρ : En} {u : U} {σ : L2.St}
theorem keepK_of (R : RE K ct ua F ρ u σ H) (e1 : Ex F1 H1) (kp : ∀ b o, b ≠ ua → H b = some o → H1 b = some o) (h : ∀ b o, F1 b = some o → F2 b = some o ∨ Own ρ σ b) : KeepK F1 F2 (ownL ρ) (ownD ρ) (ownO ρ) := fun b o hb => by
  rcases h b o hb with z | ⟨i, d, h1, h2⟩
  · exact .inl z
  · right
    obtain ⟨a, g1, g2, g3, g4⟩ := R.owns i d h1
    rw [h2] at g1
    cases g1
    have hm := List.mem_of_getElem? h1
    have ho := e1 _ _ hb
    cases d <;> first | exact (show False from g4).elim | skip
    · obtain ⟨vs, q, _⟩ := g4
      rw [kp _ _ g2 q] at ho
      cases ho
      exact .inl ⟨List.any_eq_true.mpr ⟨_, hm, rfl⟩, _, rfl⟩
    · obtain ⟨vs, q, _⟩ := g4
      rw [kp _ _ g2 q] at ho
      cases ho
      exact .inr (.inl ⟨List.any_eq_true.mpr ⟨_, hm, rfl⟩, _, rfl⟩)
    · obtain ⟨dx, fs, q, _⟩ := g4
      rw [kp _ _ g2 q] at ho
      cases ho
      exact .inr (.inr ⟨List.any_eq_true.mpr ⟨_, hm, rfl⟩, _, _, _, rfl⟩)
end
def noKR (ρ : En) (d : D) : Bool := noK (ownL ρ) (ownD ρ) (ownO ρ) d
/-- of what is one's own, for a while frozen: a value that holds none of the own kinds -/
def lendG (f : DE) : DE := fun ρ u => match f (frz ρ) u with
  | .exc c gs u' => if noKs (ownL ρ) (ownD ρ) (ownO ρ) (gs.map (·.2)) = true then .exc c gs u' else .no
  | .ok d u' => if noKR ρ d = true then .ok d u' else .no
  | .no => .no
section
variable {X : Cx} {ct : Nat → Addr} {E : L2.St → XK}
theorem pd_lendG {e : Expr} {f : DE} (h : PD X ct E e f) : PD X ct E e (lendG f) := by
  refine PE.imp h fun σ H Q ⟨ua, F, ρ, u, R, q⟩ => ⟨ua, _, _, u, R.frz, ?_⟩
  unfold lendG at q
  cases e : f (frz ρ) u with
  | ok b u' =>
    rw [e] at q
    dsimp only at q
    split at q
    · rename_i hs
      intro F' v H' s hu r
      obtain ⟨F2, s2, z, z2⟩ := R.thaw s
      exact q F2 v H' s2 hu (r.noK (keepK_of R s.exH s.kp z2) hs)
    · exact (show False from q).elim
  | exc c gs u' =>
    rw [e] at q
    dsimp only at q
    split at q
    · rename_i hs
      intro F' H' dd fs s hu hd h0 hf k r
      obtain ⟨F2, s2, z, z2⟩ := R.thaw s
      refine q F2 H' dd fs s2 hu hd h0 ?_ k (r.noK (keepK_of R s.exH s.kp z2) hs)
      cases w : F2 dd with
      | none => rfl
      | some w' => rw [z dd w' w] at hf; cases hf
    · exact (show False from q).elim
  | no => rw [e] at q; exact (show False from q).elim
/-- .. a new thing whose parts hold none of the own kinds -/
def noKP (ρ : En) : D → Bool
  | .lst xs => noKs (ownL ρ) (ownD ρ) (ownO ρ) xs
  | .dct kvs => noKs (ownL ρ) (ownD ρ) (ownO ρ) (kvs.map (·.2))
  | .obj _ fs => noKs (ownL ρ) (ownD ρ) (ownO ρ) (fs.map (·.2))
  | _ => false
def lendNG (f : DE) : DE := fun ρ u => match f (frz ρ) u with
  | .exc c gs u' => if noKs (ownL ρ) (ownD ρ) (ownO ρ) (gs.map (·.2)) = true then .exc c gs u' else .no
  | .ok d u' => if noKP ρ d = true then .ok d u' else .no
  | .no => .no
theorem OwnAt.noK {K : PySem.W.Frag} {ua a : Addr} {F1 F2 H : Hp} {l dd oo : Bool} (k : KeepK F1 F2 l dd oo) : ∀ {d : D}, OwnAt K ct ua F1 H a d → (match d with | .lst xs => noKs l dd oo xs | .dct kvs => noKs l dd oo (kvs.map (·.2)) | .obj _ fs => noKs l dd oo (fs.map (·.2)) | _ => false) = true → OwnAt K ct ua F2 H a d
  | .lst _, ⟨vs, h, r⟩, hf => ⟨vs, h, r.noK k hf⟩
  | .dct _, ⟨vs, h, n, q, r⟩, hf => ⟨vs, h, n, q, r.noK k hf⟩
  | .obj _ _, ⟨dx, fs, h, q, r⟩, hf => ⟨dx, fs, h, q, r.noK k hf⟩
theorem pdn_lendG {e : Expr} {f : DE} (h : PDN X ct E e f) : PDN X ct E e (lendNG f) := by
  refine PE.imp h fun σ H Q ⟨ua, F, ρ, u, R, q⟩ => ⟨ua, _, _, u, R.frz, ?_⟩
  unfold lendNG at q
  cases e : f (frz ρ) u with
  | ok b u' =>
    rw [e] at q
    dsimp only at q
    split at q
    · rename_i hs
      intro F' a H' s hu n1 n2 n3 o
      obtain ⟨F2, s2, z, z2⟩ := R.thaw s
      refine q F2 a H' s2 hu n1 ?_ n3 (o.noK (keepK_of R s.exH s.kp z2) hs)
      cases w : F2 a with
      | none => rfl
      | some w' => rw [z a w' w] at n2; cases n2
    · exact (show False from q).elim
  | exc c gs u' =>
    rw [e] at q
    dsimp only at q
    split at q
    · rename_i hs
      intro F' H' dd fs s hu hd h0 hf k r
      obtain ⟨F2, s2, z, z2⟩ := R.thaw s
      refine q F2 H' dd fs s2 hu hd h0 ?_ k (r.noK (keepK_of R s.exH s.kp z2) hs)
      cases w : F2 dd with
      | none => rfl
      | some w' => rw [z dd w' w] at hf; cases hf
    · exact (show False from q).elim
  | no => rw [e] at q; exact (show False from q).elim
/-! ### what is never reached -/
theorem pd_stuck {e : Expr} : PD X ct E e (fun _ => stuck) := ⟨fun pins s σ H Q I ⟨ua, F, ρ, u, R, q⟩ => (show False from q).elim⟩
theorem psd_stuck {st : Stmt} : PSD X ct E st (fun _ _ => .no) := ⟨fun pins s σ H D I ⟨ua, F, ρ, u, O, P, R, o, q⟩ => (show False from q).elim⟩
/-! ### new things -/
theorem outN_opt' {K : PySem.W.Frag} {ua : Addr} {F H : Hp} {u : U} {o : Option D} {P : Prop} {E : XK} {Q : VK} (h : outN K ct ua F H E (opt o u) Q) (k : ∀ d, o = some d → outN K ct ua F H E (ret d u) Q → P) : P := by
  cases o with
  | none => exact (show False from h).elim
  | some d => exact k d rfl h
/-- xs + ys, lists -/
theorem pdn_addL {a b : Expr} {f g : DE} {pos : Pos} (ha : PD X ct E a f) (hb : PD X ct E b g) : PDN X ct E (.BinOp a .Add b pos) (dOp oAddL f g) := by
  refine PE.imp (pe_op op_cat ha hb) fun σ H Q ⟨ua, F, ρ, u, R, q⟩ => ?_
  refine tN_bind R q fun F1 v H1 x u1 s1 R1 r1 q1 => ?_
  refine tN_bind R1 q1 fun F2 w H2 y u2 s2 R2 r2 q2 => ?_
  refine outN_opt' q2 fun d hd q3 => ?_
  have r1 := r1.mono s2.exF
  cases r1 <;> first | (cases r2 <;> cases hd; done) | skip
  rename_i a vs ds h1 h2
  cases r2 <;> first | (cases hd; done) | skip
  rename_i a' vs' ds' h1' h2'
  obtain ⟨hs, rfl⟩ := chk_some (show chk _ _ = some d from hd)
  exact ⟨a, a', vs, vs', rfl, rfl, R2.ex _ _ h1, R2.ex _ _ h1', by rw [h2.length, h2'.length]; exact small_line hs, fun p hp => outN.fresh R2.toBs q3 hp ⟨vs ++ vs', upd_same, h2.append h2'⟩⟩
/-- dict(xs), xs a list of pairs with keys unlike one another -/
def pairD : D → Option (Key × D)
  | .tup [k, v] => (keyD k).map fun k => (k, v)
  | _ => none
def pairsD : List D → Option (List (Key × D))
  | [] => some []
  | x :: xs => match pairD x, pairsD xs with
    | some p, some ps => some (p :: ps)
    | _, _ => none
def oDctP : List D → Option D
  | [.lst xs] => (pairsD xs).bind fun kds => chk (decide (kds.map (·.1)).Nodup) (.dct kds)
  | _ => none
theorem mergeK_nodup : ∀ (more acc : List (Key × V)), ((acc ++ more).map (·.1)).Nodup → mergeK acc more = acc ++ more
  | [], acc, _ => by rw [List.append_nil]; rfl
  | (k, v) :: more, acc, h => by
    have hk : ∀ kv ∈ acc, kv.1 ≠ k := fun kv hkv e => by
      rw [List.map_append, List.map_cons] at h
      exact (List.nodup_append.mp h).2.2 kv.1 (List.mem_map.mpr ⟨kv, hkv, rfl⟩) k List.mem_cons_self e
    have e : putK acc k v = acc ++ [(k, v)] := by
      unfold putK
      rw [if_neg]
      rw [List.any_eq_true]
      rintro ⟨kv, hkv, e⟩
      exact hk kv hkv (of_decide_eq_true e)
    have := mergeK_nodup more (acc ++ [(k, v)]) (by simpa using h)
    show mergeK (putK acc k v) more = _
    rw [e, this, List.append_assoc]; rfl
theorem pairs_rep {K : PySem.W.Frag} {ua : Addr} {F H : Hp} (ex : Ex F H) : ∀ {vs : List V} {ds : List D} {kds : List (Key × D)}, Reps K ct ua F vs ds → pairsD ds = some kds →
    ∃ (ps : List Addr) (kvs : List (Key × V)), vs = ps.map V.ref ∧ Paired (fun p kv => SqT K H p [kV kv.1, kv.2]) ps kvs ∧ kds.map (·.1) = kvs.map (·.1) ∧ Reps K ct ua F (kvs.map (·.2)) (kds.map (·.2))
  | _, _, _, .nil, h => by cases h; exact ⟨[], [], rfl, .nil, rfl, .nil⟩
  | _, _, _, .cons (d := d) (ds := ds) r rs, h => by
    unfold pairsD at h
    cases e1 : pairD d with
    | none => rw [e1] at h; cases h
    | some pp =>
      cases e2 : pairsD ds with
      | none => rw [e1, e2] at h; cases h
      | some qs =>
        rw [e1, e2] at h
        cases h
        obtain ⟨ps, kvs, h1, h2, h3, h4⟩ := pairs_rep ex rs e2
        cases r <;> first | (cases e1; done) | skip
        rename_i a ws es t1 t2
        cases t2 with
        | nil => cases e1
        | cons ra t3 => cases t3 with
          | nil => cases e1
          | cons rb t4 => cases t4 with
            | cons _ _ => cases e1
            | nil =>
              rename_i va k' vb v'
              have e1 : (keyD k').map (fun k => (k, v')) = some pp := e1
              cases ek : keyD k' with
              | none => rw [ek] at e1; cases e1
              | some kk =>
                rw [ek] at e1
                cases e1
                have hk : ∃ w, ra = ra ∧ w = kV kk := ⟨_, rfl, rfl⟩
                refine ⟨a :: ps, (kk, _) :: kvs, by rw [h1]; rfl, .cons ?_ h2, by rw [List.map_cons, List.map_cons, h3], .cons rb h4⟩
                have hv : ∀ {v : V}, Rep K ct ua F v k' → v = kV kk := fun {v} rr => by
                  cases k' <;> first | (cases ek; done) | skip
                  · cases ek; cases rr; rfl
                  · cases ek; cases rr; rfl
                have := hv ra
                rw [← this]
                exact ex_t ex t1
theorem pdn_dictP {g : DA} {e : Expr} {p pos : Pos} (hc : X.calm = true) (hg : Gl X "dict") (hm : X.mg "dict" = none) (ha : PDA X ct E [e] g) (he : starEach [e] X.env = (false, eval e X.env) :: starEach [] X.env := by rfl) (hpl : (backTo pos (starEach [] X.env)).any (·.1) = false := by rfl) :
    PDN X ct E (.Call (.Name "dict" p) [e] [] pos) (dCall oDctP g) := by
  refine PE.imp (pe_callTy (call_dictP hc) hg hm PyProof.Rows.boot_dict ha (by decide) (by decide) he hpl) fun σ H Q ⟨ua, F, ρ, u, R, q⟩ => ?_
  refine tN_bind R q fun F1 vs H1 xs u1 s1 R1 r1 q1 => ?_
  refine outN_opt' q1 fun d hd q2 => ?_
  match xs, r1, hd with
  | [.lst ys], .cons r .nil, hd =>
    cases r with
    | @lst a ws _ h1 h2 =>
      have hd : (pairsD ys).bind (fun kds => chk (decide (kds.map (·.1)).Nodup) (D.dct kds)) = some d := hd
      cases ep : pairsD ys with
      | none => rw [ep] at hd; cases hd
      | some kds =>
        rw [ep, Option.bind_some] at hd
        obtain ⟨hnd, rfl⟩ := chk_some hd
        obtain ⟨ps, kvs, e1, hp, e3, e4⟩ := pairs_rep R1.ex h2 ep
        have hnd : (kds.map (·.1)).Nodup := of_decide_eq_true hnd
        have hnd2 : (kvs.map (·.1)).Nodup := by rw [← e3]; exact hnd
        have em : mergeK [] kvs = kvs := mergeK_nodup kvs [] (by simpa using hnd2)
        refine ⟨a, ps, kvs, rfl, .inl (.inl (by rw [← e1]; exact R1.ex _ _ h1)), hp, fun p hp => ?_⟩
        rw [em]
        exact outN.fresh R1.toBs q2 hp ⟨kvs, upd_same, hnd2, e3, e4⟩
/-- a if t else b, where t holds -/
def dIfT (t : DB) (f : DE) : DE := fun ρ => bnd (t ρ) fun x => if x = true then f ρ else stuck
theorem pdn_ifT {t a b : Expr} {ft : DB} {f : DE} {pos : Pos} (ht : PDB X ct E t ft) (ha : PDN X ct E a f) : PDN X ct E (.IfExp t a b pos) (dIfT ft f) := by
  refine PE.imp (pe_ifExp ht ha (tb := fun _ _ _ => False) ⟨fun _ _ _ _ _ _ h => h.elim⟩) fun σ H Q ⟨ua, F, ρ, u, R, q⟩ => ?_
  refine tN_bind (rel := rB) R q fun F1 v H1 x u1 s1 R1 r1 q1 => ?_
  obtain rfl : v = x := r1
  cases v with
  | true => exact ⟨ua, F1, ρ, u1, R1, q1⟩
  | false => exact (show False from q1).elim
end
/-! ### defs that give a new thing away -/
def spN (K : PySem.W.Frag) (ct : Nat → Addr) (n : Nat) (m : DF) : Sp := fun vs H Q E => ∃ ua F u ds, Bs ua F u H ∧ Reps K ct ua F vs ds ∧ ds.length = n ∧ outN K ct ua F H E (m ds u) Q
/-- a body of one return -/
def runN (n : Nat) (f : DE) : DF := fun ds u => f (ρ0 n ds) u
theorem fn_N {P : Program} {w : World} {K : PySem.W.Frag} {mg : Str → Option Value} {base : Heap} {ct : Nat → Addr} {x qual : Str} {st : Stmt} {f : Addr} {fd : FuncData} {dvs : List V} {kws : List (Str × V)} {N ps : List Str} {k : Nat} {m : DE} {e : Expr} {pos : Pos} (F : L2.FunD K x qual (defArgs st) (defBody st) (defScope st) dvs kws f fd) (S : FnScope N ps (defScope st))
    (hst : defBody st = [.Return (some e) pos])
    (hb : ∀ (cdv : Value) (A : Around) (outer : List Env) (s : Shared) (H : Hp) (E : XK), Room k (A.deeper (PyProof.Rows.envOfC qual (defScope st) s.heap.objs.size f cdv)) → PDN (BX P w K mg base N qual st f cdv A outer s H E) ct (fun _ => E) e m) :
    FnOk P w K mg base (L2.CX P w) (k + 1) f fd ps (spN K ct ps.length (runN N.length m)) := by
  refine F.ok S (fun vs H Q E ⟨ua, F, u, ds, _, r, hl, _⟩ => by rw [r.length, hl]) fun cdv A outer s H vs Q E hr h => ⟨_, by rw [hst]; exact pss_one (ps_ret (hb cdv A outer s H E hr)), ?_⟩
  obtain ⟨ua, F, u, ds, b, r, hl, q⟩ := h
  have hp : ps.length ≤ N.length := by have := congrArg List.length S.pre; rw [List.length_take] at this; omega
  refine ⟨ua, F, ρ0 N.length ds, u, ⟨b, ?_, fun i d h => ?_, fun i d h => absurd h ρ0_own⟩, q⟩
  · rw [start_len, r.length]
    unfold ρ0
    rw [List.length_append, List.length_map, List.length_replicate]
  · obtain ⟨v, h1, h2⟩ := r.get' (ρ0_get h)
    exact ⟨v, start_get h1, h2⟩
section
variable {X : Cx} {ct : Nat → Addr} {E : L2.St → XK} {k : Nat} {f : Addr} {fd : FuncData} {ps : List Str} {n c : Nat} {m : DF} {x : Str} {p pos : Pos} {e a b : Expr} {es : List Expr} {g : DA} {ga gb : DE}
/-- f(e, ..), a new thing -/
theorem pdn_call (F : FnOk X.prog X.w X.K X.mg X.base (L2.CX X.prog X.w) k f fd ps (spN X.K ct n m)) (hr : Room k X.A) (hg : Gl X x) (hm : X.mg x = some (.ref f)) (hk : PySem.W.keepIn X.K (.ref f) = true) (hb : Binds X.K fd ps []) (hx : PaE X E)
    (ha : PDA X ct E (e :: es) g) (hlen : LenA (e :: es).length g) (hl : (e :: es).length = n) (hdb : (x == ("__debug__" : Str)) = false := by decide) (he : starEach (e :: es) X.env = (false, eval e X.env) :: starEach es X.env := by rfl) (hpl : (backTo pos (starEach es X.env)).any (·.1) = false := by rfl) :
    PDN X ct E (.Call (.Name x p) (e :: es) [] pos) (dCallF m [] g) := by
  refine PE.imp (pe_callSD (dvs := []) F hr hg hm hk hb .nil hx ha hdb he hpl) fun σ H Q ⟨ua, F, ρ, u, R, q⟩ => ?_
  refine ⟨ua, F, ρ, u, R, ?_⟩
  have q : outN X.K ct ua F H (E σ) (bnd (g ρ) (fun xs => m (xs ++ [])) u) Q := q
  unfold bnd at q
  cases eg : g ρ u with
  | no => rw [eg] at q; exact q
  | exc c gs u1 => rw [eg] at q; exact q
  | ok xs u1 =>
    rw [eg] at q
    dsimp only at q
    rw [List.append_nil] at q
    intro F1 vs H1 s hu r
    have R1 := R.step s hu
    refine ⟨ua, F1, u1, xs, R1.toBs, ?_, by rw [hlen _ _ _ _ eg]; exact hl, outN.mono (r := m xs u1) R.toBs q s hu⟩
    rw [List.append_nil]; exact r
end
end Dl
set_option Elab.async false
set_option linter.all false
set_option maxRecDepth 100000
set_option maxHeartbeats 4000000
/-! Dl25: != by an own __eq__; some that is one's own is frozen. -/
namespace Dl
open PySem L2 Evl
section
open PySem.Calls
variable {M : Model} {prog : Program} {w : World} {A : Around} {E : Value → Shared → Prop} {s : Shared} {K : PySem.W.Frag} {x C f L : Addr} {h₀ : Heap} {m : Str → Option Value} {ox : Obj} {od : Option Obj} {b tb : Value}
theorem ifBound_objNe {args : List Value} {Q : Option Value → Shared → Prop} (X : K.In s.heap) (I : PySem.W.InstAt s.heap x ox C od) (hs : PySem.W.findIn K (.ref C) "__ne__" = some (some (.builtin "object.__ne__")))
    (h : wpAny M A (call (.builtin "object.__ne__") (.ref x :: args)) (fun v => Q (some v)) E s) : wpAny M A (callSpecialIfBound? (.ref x) "__ne__" args) Q E s := by
  simp only [callSpecialIfBound?, bindSpecialIfBound?]
  refine wpAny_holding (wpAny_bind (wpAny_bind (wpAny_bind (I.type.here ((PySem.W.looks_findIn X hs).here ?_)))))
  refine wpAny_bind (wpAny_askSetting (wpAny_ite ?_))
  have fin : wpAny M A (call (.builtin "object.__ne__") ([.ref x] ++ args) >>= fun v => pure (some v)) Q E s := wpAny_bind (wpAny_mono h (fun v s' h' => wpAny_pure h') fun _ _ h' => h')
  split
  · exact wpAny_bind (wpAny_of_eq (F.cmp_object.ne.bind _) (wpAny_pure (by exact fin)))
  · exact wpAny_tryCatch (wpAny_bind (wpAny_of_eq (F.cmp_object.ne.bind _) (wpAny_pure (by exact fin))))
theorem objNe_entry {Q : Fin → Shared → Prop} (hu : A.units < cLine) (X : K.In s.heap) (I : PySem.W.InstAt s.heap x ox C od) (hs : PySem.W.findIn K (.ref C) "__eq__" = some (some (.ref f))) (hf : PySem.W.isFn K (.ref f) = true)
    (hcall : wpAny (model prog w) A (call (.ref f) [.ref x, b]) (fun v s' => ∃ bb, v = .bool bb ∧ Q (.done (.ret (.bool (!bb)))) s') E s) :
    wpAny (model prog w) A (Builtin.«object.__ne__» ⟨[.ref x, b], []⟩) Q E s := by
  obtain ⟨hp, g, d, t, os⟩ := s
  unfold Builtin.«object.__ne__»
  repeat (first
    | with_reducible refine wpAny_cRoomFor hu ?_
    | (refine wpAny_bind (m := callSpecialIfBound? (.ref x) (Str.ofString "__eq__") [b])
        (PySem.W.ifBound_K X I hs hf (wpAny_mono hcall (fun r s' hr => by
          obtain ⟨bb, rfl, hq⟩ := hr
          repeat (first | exact hq | exact wpAny_pure hq | exact wpAny_truthy_bool hq | (refine wpAny_bind (m := truthy (.bool _)) (wpAny_truthy_bool ?_)) | wp_step)) fun _ _ e => e)))
    | wp_step)
theorem tryNe {Q : Option Value → Shared → Prop} (hu : A.units + 1 < cLine) (X : K.In s.heap) (I : PySem.W.InstAt s.heap x ox C od) (hm : PySem.W.mroIn K C (.type "object") = some true) (hn : PySem.W.findIn K (.ref C) "__ne__" = some (some (.builtin "object.__ne__")))
    (hs : PySem.W.findIn K (.ref C) "__eq__" = some (some (.ref f))) (hf : PySem.W.isFn K (.ref f) = true)
    (hcall : wpAny (model prog w) A.in1 (call (.ref f) [.ref x, b]) (fun v s' => ∃ bb, v = .bool bb ∧ Q (some (.bool (!bb))) s') E s) :
    wpAny (model prog w) A (tryCompare (.ref x) "__ne__" b) Q E s := by
  unfold tryCompare
  refine wpAny_bind (ifBound_objNe X I hn (wpAny_call (codeAny_call_builtin F.cmp_object.ne.plain F.cmpEntry_ne (PySem.W.check_slot F.cmpKind_ne F.cmpSplit_ne (I.type.andThen (PySem.W.looks_mroIn X hm)) (F.cmpArgs_ne _ _)
    (objNe_entry (A := A.in1) hu X I hs hf (wpAny_mono hcall (fun v s' hv => ?_) fun _ _ e => e))))))
  obtain ⟨bb, rfl, hq⟩ := hv
  first | exact ⟨bb, rfl, wpAny_pure hq⟩ | exact ⟨bb, rfl, wpAny_pure (wpAny_pure hq)⟩ | exact ⟨bb, rfl, hq⟩
theorem ne_K {Q : Value → Shared → Prop} (hu : A.units + 1 < cLine) (X : K.In s.heap) (I : PySem.W.InstAt s.heap x ox C od) (hb : PySem.W.Looks (model prog w) s.heap (typeOf b) tb) (hnf : PySem.W.notFirst K C tb = true)
    (hm : PySem.W.mroIn K C (.type "object") = some true) (hn : PySem.W.findIn K (.ref C) "__ne__" = some (some (.builtin "object.__ne__"))) (hs : PySem.W.findIn K (.ref C) "__eq__" = some (some (.ref f))) (hf : PySem.W.isFn K (.ref f) = true)
    (h : wpAny (model prog w) A.in1 (call (.ref f) [.ref x, b]) (fun v s' => ∃ bb, v = .bool bb ∧ Q (.bool (!bb)) s') E s) : wpAny (model prog w) A (richCompare .NotEq (.ref x) b) Q E s := by
  have one : wpAny (model prog w) A (tryCompare (.ref x) (cmpInfo .NotEq).2.1 b) (fun r s' => ∃ v, r = some v ∧ Q v s') E s := by
    rw [cmpInfo_NotEq]
    exact tryNe hu X I hm hn hs hf (wpAny_mono h (fun v s' ⟨bb, e, q⟩ => ⟨bb, e, _, rfl, q⟩) fun _ _ e => e)
  unfold richCompare
  simp only [oneThing_ref]
  refine wpAny_holding (wpAny_bind (wpAny_cRoomFor (Nat.lt_of_succ_lt hu) ?_))
  refine wpAny_bind (I.type.here (wpAny_bind (hb.here ?_)))
  split
  · rename_i q
    have e : PySem.W.subIn K tb (.ref C) = some false := by
      rcases Bool.or_eq_true_iff.mp hnf with e | e
      · rw [beq_iff_eq.mp e] at q; simp at q
      · exact beq_iff_eq.mp e
    refine wpAny_bind ((PySem.W.looks_subIn X e).here ?_)
    simp only [Bool.false_eq_true, if_false]
    refine wpAny_bind (wpAny_mono one (fun r s' z => ?_) fun _ _ e => e)
    obtain ⟨v, rfl, hq⟩ := z
    exact wpAny_pure hq
  · refine wpAny_bind (wpAny_pure ?_)
    simp only [Bool.false_eq_true, if_false]
    refine wpAny_bind (wpAny_mono one (fun r s' z => ?_) fun _ _ e => e)
    obtain ⟨v, rfl, hq⟩ := z
    exact wpAny_pure hq
end
section
variable {X : Cx} {ct : Nat → Addr} {E : L2.St → XK} {k : Nat} {f : Addr} {fd : FuncData} {ps : List Str} {n c : Nat} {m : DF} {a b : Expr} {pos : Pos} {ga gb : DE}
def isNotB : D → Option D
  | .bl b => some (.bl (!b))
  | _ => none
/-- a != b, a of the class c that has an own __eq__ and no __ne__ -/
def dNeOwn (c : Nat) (tb : Ty → Bool) (m : DF) (f g : DE) : DE := fun ρ => bnd (f ρ) fun x => bnd (g ρ) fun y => if isOf c x = true ∧ (tyD y).any tb = true then bnd (m [x, y]) (fun r => opt (isNotB r)) else stuck
theorem pd_neOwn {tb : Ty → Bool} (ha : PD X ct E a ga) (hb : PD X ct E b gb) (F : FnOk X.prog X.w X.K X.mg X.base (L2.CX X.prog X.w) k f fd ps (spD X.K ct 2 m)) (hr : Room (k + 1) X.A) (hbn : Binds X.K fd ps []) (hx : PaE X E)
    (hn : ∀ ty, tb ty = true → PySem.W.notFirst X.K (ct c) (tyVal ct ty) = true) (hm : PySem.W.mroIn X.K (ct c) (.type "object") = some true) (hne : PySem.W.findIn X.K (.ref (ct c)) "__ne__" = some (some (.builtin "object.__ne__")))
    (hs : PySem.W.findIn X.K (.ref (ct c)) "__eq__" = some (some (.ref f))) (hf : PySem.W.isFn X.K (.ref f) = true) (hmk : behindInMarks .NotEq b = false) : PD X ct E (.Compare a [.NotEq] [b] pos) (dNeOwn c tb m ga gb) := by
  refine ⟨fun pins s σ H Q I ⟨ua, F0, ρ, u, R, q⟩ => ?_⟩
  refine wpAny_Compare1 (duo I R q ha hb fun s2 H2 F2 x y u2 v w d1 d2 I2 R2 rx ry r1 r2 q2 => ?_) hmk
  split at q2
  · rename_i hc
    obtain ⟨gs, rfl⟩ := isOf_some hc.1
    obtain ⟨p, ox, od, rfl, rfl, J⟩ := own_at I2 R2.ex rx r1
    cases ht : tyD d2 with
    | none => rw [ht] at hc; exact absurd hc.2 (by simp)
    | some ty =>
      rw [ht] at hc
      have hu : X.A.units + 1 < cLine := by have := hr.un; omega
      refine ne_K hu I2.kIn J (type_rep I2 R2.ex r2 ry ht) (hn ty (by simpa using hc.2)) hm hne hs hf ?_
      refine wpAny_mono (run_in1 (us := [.ref p, w]) (vs := [.ref p, y]) F hr hbn (hx σ) I2 (.cons rfl (.cons ry .nil)) ⟨ua, F2, u2, _, R2.toBs, .cons r1 (.cons r2 .nil), rfl, out_look q2⟩) (fun r s' h => ?_) fun _ _ z => z
      obtain ⟨v, H', I', rv, F', d, d', u', st, hu, rd, ho, hq⟩ := h
      cases d <;> first | (cases ho; done) | skip
      rename_i bb
      cases rd
      obtain rfl : r = .bool bb := rv
      cases ho
      exact ⟨bb, rfl, .bl (!bb), H', I', rfl, hq _ (.bl (!bb))⟩
  · exact (show False from q2).elim
end
/-! ### some of what is one's own is frozen -/
def frzI (is : List Nat) (ρ : En) : En := ρ.mapIdx fun j s => if j ∈ is then frz1 s else s
theorem frzI_get (is : List Nat) (ρ : En) (j : Nat) : (frzI is ρ)[j]? = (ρ[j]?).map fun s => if j ∈ is then frz1 s else s := by
  unfold frzI
  rw [List.getElem?_mapIdx]
theorem frzI_val {is : List Nat} {ρ : En} {j : Nat} {d : D} (h : (frzI is ρ)[j]? = some (.val d)) : ρ[j]? = some (.val d) ∨ (j ∈ is ∧ ρ[j]? = some (.own d)) := by
  rw [frzI_get] at h
  cases e : ρ[j]? with
  | none => rw [e] at h; cases h
  | some s =>
    rw [e] at h
    by_cases hj : j ∈ is
    · simp only [Option.map_some, hj, if_true] at h
      cases s with
      | no => cases h
      | val d' => cases h; exact .inl rfl
      | own d' => cases h; exact .inr ⟨hj, rfl⟩
    · simp only [Option.map_some, hj, if_false] at h
      exact .inl (by rw [← e] at *; rw [e]; exact h)
theorem frzI_own {is : List Nat} {ρ : En} {j : Nat} {d : D} (h : (frzI is ρ)[j]? = some (.own d)) : j ∉ is ∧ ρ[j]? = some (.own d) := by
  rw [frzI_get] at h
  cases e : ρ[j]? with
  | none => rw [e] at h; cases h
  | some s =>
    rw [e] at h
    by_cases hj : j ∈ is
    · simp only [Option.map_some, hj, if_true] at h
      cases s <;> cases h
    · simp only [Option.map_some, hj, if_false] at h
      exact ⟨hj, h⟩
/-- the addresses of these own ones -/
def OwnI (is : List Nat) (ρ : En) (σ : L2.St) (a : Addr) : Prop := ∃ (i : Nat) (d : D), i ∈ is ∧ ρ[i]? = some (.own d) ∧ σ[i]? = some (some (.ref a))
section
variable {K : PySem.W.Frag} {ct : Nat → Addr} {ua : Addr} {P : Addr → Prop} {F H : Hp} {ρ : En} {u : U} {σ : L2.St} {O : Addr → Prop} {E : L2.St → XK} {is : List Nat}
theorem OwnI.own {a : Addr} (h : OwnI is ρ σ a) : Own ρ σ a := by
  obtain ⟨i, d, _, h1, h2⟩ := h
  exact ⟨i, d, h1, h2⟩
theorem RS.frzI (R : RS K ct P ua F ρ u σ H) : RS K ct P ua (plus F H (OwnI is ρ σ)) (frzI is ρ) u σ H := by
  have ex1 : Ex F (plus F H (OwnI is ρ σ)) := fun a o h => by
    by_cases e : OwnI is ρ σ a
    · rw [(R.toRE.own_some e.own).2.1] at h; cases h
    · rw [plus_no e]; exact h
  have ex2 : Ex (plus F H (OwnI is ρ σ)) H := fun a o h => by
    by_cases e : OwnI is ρ σ a
    · rw [plus_yes e] at h; exact h
    · rw [plus_no e] at h; exact R.ex a o h
  refine ⟨⟨⟨ex2, R.urn, ?_⟩, ?_, fun i d h => ?_, fun i d h => ?_⟩, fun i j d e a h1 h2 h3 h4 => R.sep i j d e a (frzI_own h1).2 (frzI_own h2).2 h3 h4, fun i c gs a h1 h2 => R.obj i c gs a (frzI_own h1).2 h2⟩
  · by_cases e : OwnI is ρ σ ua
    · exact absurd rfl (R.toRE.own_some e.own).1
    · rw [plus_no e]; exact R.fu
  · unfold Dl.frzI; rw [List.length_mapIdx]; exact R.len
  · rcases frzI_val h with h | ⟨hj, h⟩
    · obtain ⟨v, h1, h2⟩ := R.vals i d h
      exact ⟨v, h1, h2.mono ex1⟩
    · obtain ⟨a, h1, h2, h3, h4⟩ := R.owns i d h
      exact ⟨_, h1, OwnAt.rep h4 ex1 fun o q => by rw [plus_yes ⟨i, d, hj, h, h1⟩]; exact q⟩
  · obtain ⟨hj, h⟩ := frzI_own h
    obtain ⟨a, h1, h2, h3, h4⟩ := R.owns i d h
    refine ⟨a, h1, h2, ?_, h4.mono ex1 fun _ q => q⟩
    rw [plus_no]
    · exact h3
    · rintro ⟨j, d', hj', g1, g2⟩
      have := R.sep i j d d' a h g1 h1 g2
      exact hj (this ▸ hj')
def sFrzI (is : List Nat) (f : DS) : DS := fun ρ u => f (frzI is ρ) u
theorem tS_frzI {f : DS} {D : Ends} (h : tS K ct E (sFrzI is f) D σ H) : tS K ct E f D σ H := by
  obtain ⟨ua, F, ρ, u, O, P, R, o, q⟩ := h
  refine ⟨ua, _, _, u, O, P, R.frzI, fun b ⟨i, d, h1, h2⟩ => o b ⟨i, d, (frzI_own h1).2, h2⟩, outS.shift (r := f (frzI is ρ) u) R.toBs q ?_ R.urn fun b z => .inl z⟩
  have RR := RS.frzI (is := is) R
  refine ⟨fun a oo h => ?_, RR.ex, RR.fu, fun _ _ _ _ h => h, fun b o' h => ?_, fun _ o _ h => ⟨o, h⟩⟩
  · by_cases e : OwnI is ρ σ a
    · rw [(R.toRE.own_some e.own).2.1] at h; cases h
    · rw [plus_no e]; exact h
  · by_cases e : OwnI is ρ σ b
    · exact .inr (.inr (o b e.own))
    · rw [plus_no e] at h; exact .inl h
end
theorem psds_frzI {X : Cx} {ct : Nat → Addr} {E : L2.St → XK} {st : List Stmt} {f : DS} {is : List Nat} (h : PSDs X ct E st f) : PSDs X ct E st (sFrzI is f) := PSs.imp h fun _ _ _ => tS_frzI
end Dl
set_option Elab.async false
set_option linter.all false
set_option maxRecDepth 100000
set_option maxHeartbeats 4000000
/-! Dl26: comparisons by own special methods, as values and as tests. -/
namespace Dl
open PySem L2 Evl
/-- a op b, as far as the answer -/
def PCmp (X : Cx) (ct : Nat → Addr) (E : L2.St → XK) (a : Expr) (op : CmpOp) (b : Expr) (f : DE) : Prop := ∀ (pins : List (Addr × Obj)) (s : Shared) (σ : L2.St) (H : Hp) (Q : VK), Inv X pins σ H s → tG X.K ct (rD X.K ct) E f σ H Q →
  wpAny (model X.prog X.w) X.A (eval a X.env) (fun v s1 => wpAny (model X.prog X.w) X.A (eval b X.env) (fun w s2 => wpAny (model X.prog X.w) X.A (compareOp op v w) (EP X pins σ Q) X.xe s2) X.xe s1) X.xe s
section
variable {X : Cx} {ct : Nat → Addr} {E : L2.St → XK} {k : Nat} {f : Addr} {fd : FuncData} {ps : List Str} {n c : Nat} {m : DF} {a b : Expr} {pos : Pos} {ga gb g : DE} {op : CmpOp}
theorem pd_ofC (h : PCmp X ct E a op b g) (hm : behindInMarks op b = false) : PD X ct E (.Compare a [op] [b] pos) g := ⟨fun pins s σ H Q I q => wpAny_Compare1 (h pins s σ H Q I q) hm⟩
theorem pdb_ofC (h : PCmp X ct E a op b g) (hm : behindInMarks op b = false) : PDB X ct E (.Compare a [op] [b] pos) (dTst g) := by
  refine ⟨fun pins s σ H Q I q => wpAny_isTrue_Compare1 (wpAny_mono (h pins s σ H (fun v H' => ∃ bb, v = .bl bb ∧ Q bb H') I ?_) (fun v s1 z => wpAny_mono z (fun w s2 z => thn z fun r s3 ⟨v', H', I', rv, bb, e, hq⟩ => ?_) fun _ _ z => z) fun _ _ z => z) hm⟩
  · exact tB_of σ H Q q
  · subst e
    obtain rfl : r = .bool bb := rv
    exact wpAny_truthy_bool ⟨H', I', hq⟩
theorem pc_inOwn {neg : Bool} {op : CmpOp} (ho : op = if neg = true then .NotIn else .In) (ha : PD X ct E a ga) (hb : PD X ct E b gb) (F : FnOk X.prog X.w X.K X.mg X.base (L2.CX X.prog X.w) k f fd ps (spD X.K ct 2 m)) (hr : Room k X.A) (hbn : Binds X.K fd ps []) (hx : PaE X E)
    (hs : PySem.W.findIn X.K (.ref (ct c)) "__contains__" = some (some (.ref f))) (hf : PySem.W.isFn X.K (.ref f) = true) : PCmp X ct E a op b (dInOwn neg c m ga gb) := by
  rintro pins s σ H Q I ⟨ua, F0, ρ, u, R, q⟩
  refine (duo I R q ha hb fun s2 H2 F2 x y u2 v w d1 d2 I2 R2 rx ry r1 r2 q2 => ?_)
  split at q2
  · rename_i hc
    obtain ⟨gs, rfl⟩ := isOf_some hc
    obtain ⟨p, ox, od, rfl, rfl, J⟩ := own_at I2 R2.ex ry r2
    obtain ⟨m', hF⟩ := I2.fr
    have q3 := out_look q2
    have run := run_fnSD (us := [.ref p, v]) (vs := [.ref p, x]) (ds := []) F hr hbn .nil (hx σ) I2 (.cons rfl (.cons rx .nil)) ⟨ua, F2, u2, _, R2.toBs, .cons r2 (.cons r1 .nil), rfl, q3⟩
    subst ho
    cases neg with
    | false =>
      refine PySem.W.in_K hF I2.ok.mod.kin J hs hf (wpAny_mono run (fun r s' h => ?_) fun _ _ z => z)
      obtain ⟨v, H', I', rv, F', d, d', u', st, hu, rd, ho, hq⟩ := h
      cases d <;> first | (cases ho; done) | skip
      rename_i bb
      cases rd
      obtain rfl : r = .bool bb := rv
      cases ho
      rw [Bool.false_xor] at hq
      exact wpAny_truthy_bool ⟨.bl bb, H', I', rfl, hq _ (.bl bb)⟩
    | true =>
      refine PySem.W.notIn_K hF I2.ok.mod.kin J hs hf (wpAny_mono run (fun r s' h => ?_) fun _ _ z => z)
      obtain ⟨v, H', I', rv, F', d, d', u', st, hu, rd, ho, hq⟩ := h
      cases d <;> first | (cases ho; done) | skip
      rename_i bb
      cases rd
      obtain rfl : r = .bool bb := rv
      cases ho
      rw [Bool.true_xor] at hq
      exact wpAny_truthy_bool ⟨.bl (!bb), H', I', rfl, hq _ (.bl (!bb))⟩
  · exact (show False from q2).elim
theorem pc_neOwn {tb : Ty → Bool} (ha : PD X ct E a ga) (hb : PD X ct E b gb) (F : FnOk X.prog X.w X.K X.mg X.base (L2.CX X.prog X.w) k f fd ps (spD X.K ct 2 m)) (hr : Room (k + 1) X.A) (hbn : Binds X.K fd ps []) (hx : PaE X E)
    (hn : ∀ ty, tb ty = true → PySem.W.notFirst X.K (ct c) (tyVal ct ty) = true) (hm : PySem.W.mroIn X.K (ct c) (.type "object") = some true) (hne : PySem.W.findIn X.K (.ref (ct c)) "__ne__" = some (some (.builtin "object.__ne__")))
    (hs : PySem.W.findIn X.K (.ref (ct c)) "__eq__" = some (some (.ref f))) (hf : PySem.W.isFn X.K (.ref f) = true) : PCmp X ct E a .NotEq b (dNeOwn c tb m ga gb) := by
  rintro pins s σ H Q I ⟨ua, F0, ρ, u, R, q⟩
  refine (duo I R q ha hb fun s2 H2 F2 x y u2 v w d1 d2 I2 R2 rx ry r1 r2 q2 => ?_)
  split at q2
  · rename_i hc
    obtain ⟨gs, rfl⟩ := isOf_some hc.1
    obtain ⟨p, ox, od, rfl, rfl, J⟩ := own_at I2 R2.ex rx r1
    cases ht : tyD d2 with
    | none => rw [ht] at hc; exact absurd hc.2 (by simp)
    | some ty =>
      rw [ht] at hc
      have hu : X.A.units + 1 < cLine := by have := hr.un; omega
      refine ne_K hu I2.kIn J (type_rep I2 R2.ex r2 ry ht) (hn ty (by simpa using hc.2)) hm hne hs hf ?_
      refine wpAny_mono (run_in1 (us := [.ref p, w]) (vs := [.ref p, y]) F hr hbn (hx σ) I2 (.cons rfl (.cons ry .nil)) ⟨ua, F2, u2, _, R2.toBs, .cons r1 (.cons r2 .nil), rfl, out_look q2⟩) (fun r s' h => ?_) fun _ _ z => z
      obtain ⟨v, H', I', rv, F', d, d', u', st, hu, rd, ho, hq⟩ := h
      cases d <;> first | (cases ho; done) | skip
      rename_i bb
      cases rd
      obtain rfl : r = .bool bb := rv
      cases ho
      exact ⟨bb, rfl, .bl (!bb), H', I', rfl, hq _ (.bl (!bb))⟩
  · exact (show False from q2).elim
theorem pc_cmpOwn {op : CmpOp} {tb : Ty → Bool} (ho : ∀ u v : Value, compareOp op u v = richCompare op u v) (ha : PD X ct E a ga) (hb : PD X ct E b gb) (F : FnOk X.prog X.w X.K X.mg X.base (L2.CX X.prog X.w) k f fd ps (spD X.K ct 2 m)) (hr : Room k X.A) (hbn : Binds X.K fd ps []) (hx : PaE X E)
    (hn : ∀ ty, tb ty = true → PySem.W.notFirst X.K (ct c) (tyVal ct ty) = true) (hs : PySem.W.findIn X.K (.ref (ct c)) (cmpInfo op).2.1 = some (some (.ref f))) (hf : PySem.W.isFn X.K (.ref f) = true) : PCmp X ct E a op b (dOwn2 c tb m ga gb) := by
  rintro pins s σ H Q I ⟨ua, F0, ρ, u, R, q⟩
  refine (duo I R q ha hb fun s2 H2 F2 x y u2 v w d1 d2 I2 R2 rx ry r1 r2 q2 => ?_)
  split at q2
  · rename_i hc
    obtain ⟨gs, rfl⟩ := isOf_some hc.1
    obtain ⟨p, ox, od, rfl, rfl, J⟩ := own_at I2 R2.ex rx r1
    obtain ⟨m', hF⟩ := I2.fr
    cases ht : tyD d2 with
    | none => rw [ht] at hc; exact absurd hc.2 (by simp)
    | some ty =>
      rw [ht] at hc
      rw [ho]
      refine PySem.W.cmp_K hr.units0 hF I2.ok.mod.kin J (type_rep I2 R2.ex r2 ry ht) (hn ty (by simpa using hc.2)) hs hf ?_
      exact wpAny_mono (run_fnSD (us := [.ref p, w]) (vs := [.ref p, y]) (ds := []) F hr hbn .nil (hx σ) I2 (.cons rfl (.cons ry .nil)) ⟨ua, F2, u2, _, R2.toBs, .cons r1 (.cons r2 .nil), rfl, q2⟩) (fun u' s' h => back_rel h) fun _ _ z => z
  · exact (show False from q2).elim
end
theorem boot_LookupError : bootBuiltins "LookupError" = some (.type "LookupError") := by decide +kernel
theorem boot_ValueError : bootBuiltins "ValueError" = some (.type "ValueError") := by decide +kernel
end Dl
set_option Elab.async false
set_option linter.all false
set_option maxRecDepth 100000
set_option maxHeartbeats 4000000
/-! DlSet: sets of texts: made of a list or tuple, sorted. -/
namespace DlS
open PySem L2 PySem.Spec PyProof.Rows
def keyOfS (e : Int × Value) : Str := match e.2 with | .str k _ => k | _ => Str.empty
def GoodES (w : World) (e : Int × Value) : Prop := ∃ k tk, e.2 = Value.str k tk ∧ e.1 = hashStr w k

/-- the set of ints at a: S its members, n their number; its table rises and can be walked -/
def SetRS (w : World) (h : Heap) (a : Addr) (S : Str → Bool) (n : Nat) : Prop :=
  ∃ o es ep t, h.get? a = some o ∧ o.ExactSet ∧ o.data = .set es ep t ∧ (∀ e ∈ es.toList, GoodES w e) ∧ (es.toList.map keyOfS).Nodup ∧ (∀ k, S k = true ↔ k ∈ es.toList.map keyOfS) ∧
    es.size < scanBound ∧ t.fits es.size = true ∧ es.size = n ∧ Ris t.place.toList ∧ (w.params.followText "set-order" = true ∨ t.led = true)

section
variable {P : Program} {w : World} {h h' : Heap} {a : Addr} {S : Str → Bool} {n : Nat}

theorem SetRS.at (R : SetRS w h a S n) (k : ∀ o, h.get? a = some o → h'.get? a = some o) : SetRS w h' a S n := by
  obtain ⟨o, es, ep, t, ho, r⟩ := R
  exact ⟨o, es, ep, t, k o ho, r⟩
theorem SetRS.lt (R : SetRS w h a S n) : a < h.objs.size := by
  obtain ⟨o, es, ep, t, ho, r⟩ := R
  exact Heap.lt_size ho
theorem SetRS.congr {S' : Str → Bool} (R : SetRS w h a S n) (e : ∀ k, S' k = S k) : SetRS w h a S' n := by
  have q : S' = S := funext e
  rw [q]; exact R
theorem goodS_elems {l : List (Int × Value)} (g : ∀ e ∈ l, GoodES w e) : ElemsOf (PySem.strKind P w) l := fun e he => by
  obtain ⟨k, tk, h1, h2⟩ := g e he
  exact ⟨⟨k, by rw [h1]; exact strKind_is P w k tk, h2⟩, by rw [h1] <;> rfl⟩
theorem goodS_is {e : Int × Value} (g : GoodES w e) (k : Str) : (PySem.strKind P w).is k e.2 = true ↔ keyOfS e = k := by
  obtain ⟨k0, tk, h1, _⟩ := g
  unfold keyOfS
  rw [h1]
  show ((k0 == k) = true) ↔ k0 = k
  exact beq_iff_eq
theorem goodS_mem {l : List (Int × Value)} (g : ∀ e ∈ l, GoodES w e) (k : Str) : k ∈ l.map keyOfS ↔ ∃ e ∈ l, (PySem.strKind P w).is k e.2 = true := by
  rw [List.mem_map]
  constructor
  · rintro ⟨e, he, q⟩
    exact ⟨e, he, (goodS_is (g e he) k).2 q⟩
  · rintro ⟨e, he, q⟩
    exact ⟨e, he, (goodS_is (g e he) k).1 q⟩
theorem SetRS.setOf (R : SetRS w h a S n) : h.SetOf (PySem.strKind P w) a S n := by
  obtain ⟨o, es, ep, t, ho, hx, hd, g, nd, hm, hb, hf, hn, _⟩ := R
  exact ⟨o, es, ep, t, ho, hx, hd, goodS_elems g, fun k => (hm k).trans (goodS_mem g k), hb, hf, hn⟩
end

section
variable {P : Program} {w : World} {A : Around} {E : Value → Shared → Prop} {s : Shared} {a : Addr} {S : Str → Bool} {n : Nat}
theorem setRS_add_tail {g : Bool → Sem Unit} (hg : ∀ (b : Bool) (s₁ : Shared) (Q' : Unit → Shared → Prop), Q' () s₁ → wpAny (model P w) A (g b) Q' E s₁)
    {o : Obj} {es : Array (Int × Value)} {ep : Nat} {t : SetTable} (ho : s.heap.get? a = some o) (hex : o.ExactSet) (hd : o.data = .set es ep t)
    {es1 : Array (Int × Value)} {t2 : SetTable} {S' : Str → Bool} (g1 : ∀ e ∈ es1.toList, GoodES w e) (nd1 : (es1.toList.map keyOfS).Nodup) (m1 : ∀ k, S' k = true ↔ k ∈ es1.toList.map keyOfS)
    (hb1 : es1.size < scanBound) (hf2 : t2.fits es1.size = true) (hr : Ris t2.place.toList) (hl : w.params.followText "set-order" = true ∨ t2.led = true) {wasDummy : Bool} {R : Option Bool → Shared → Prop}
    (hR : ∀ h', Heap.SameBut a s.heap h' → SetRS w h' a S' es1.size → R (some true) { s with heap := h' }) :
    wpAny (model P w) A (do
        storeSet a es1 t2
        if (!wasDummy && t2.tooFull) = true then do
            g (relayAll t2 es1 (SetTable.grown es1.size)).2.2
            storeSet a (relayAll t2 es1 (SetTable.grown es1.size)).1 (relayAll t2 es1 (SetTable.grown es1.size)).2.1
            pure (some true)
          else pure (some true)) R E s := by
  refine wpAny_bind (wpAny_storeSet_of ho hd ?_ (fits_of_scanBound hb1))
  have ho1 := store_at (es' := es1) (t' := t2) ho hd
  have sb1 := Heap.SameBut.update s.heap a (Obj.putSet es1 t2)
  split
  · have pm := relayAll_perm t2 es1 (SetTable.grown es1.size)
    have hf3 := relayAll_fits t2 es1 (SetTable.grown es1.size)
    have hr3 := relayAll_ris t2 es1 (SetTable.grown es1.size)
    have hl3 := relayAll_led t2 es1 (SetTable.grown es1.size)
    generalize relayAll t2 es1 (SetTable.grown es1.size) = Z at pm hf3 hr3 hl3 ⊢
    obtain ⟨es2, t3, gave⟩ := Z
    dsimp only at pm hf3 hr3 hl3 ⊢
    have hsz : es2.size = es1.size := by rw [← Array.length_toList, pm.length_eq, Array.length_toList]
    have hb2 : es2.size < scanBound := by rw [hsz]; exact hb1
    refine wpAny_bind (hg _ _ _ ?_)
    refine wpAny_bind (wpAny_storeSet_of ho1 rfl ?_ (fits_of_scanBound hb2))
    have ho2 := store_at (es' := es2) (t' := t3) ho1 rfl
    refine wpAny_pure (hR _ (sb1.trans (Heap.SameBut.update _ a _)) ?_)
    exact ⟨_, es2, _, t3, ho2, hex, rfl, fun e he => g1 e (pm.mem_iff.mp he), (pm.map keyOfS).nodup_iff.mpr nd1, fun k => (m1 k).trans (pm.map keyOfS).mem_iff.symm, hb2, hf3, hsz, hr3,
      hl.imp id fun z => by rw [hl3]; exact z⟩
  · exact wpAny_pure (hR _ sb1 ⟨_, es1, _, t2, ho1, hex, rfl, g1, nd1, m1, hb1, hf2, rfl, hr, hl⟩)

theorem setRS_add_hashed {k : Str} {tk : Tok} {Q : Bool → Shared → Prop} (R : SetRS w s.heap a S n) (room : n + 1 < scanBound)
    (hQ : ∀ h', Heap.SameBut a s.heap h' → SetRS w h' a (fun j => S j || decide (j = k)) (if S k = true then n else n + 1) → Q (!S k) { s with heap := h' }) :
    wpAny (model P w) A (setAddHashed a (.str k tk) ((PySem.strKind P w).hash k)) Q E s := by
  obtain ⟨o, es, ep, t, ho, hex, hd, g, nd, hm, hb, hf, hn, hr, hl⟩ := R
  have hkey : (PySem.strKind P w).is k (.str k tk) = true := strKind_is P w k tk
  have hsc : (Value.str k tk).scannable = true := rfl
  have hel : ElemsOf (PySem.strKind P w) es.toList := goodS_elems g
  unfold setAddHashed setAddHashedIn
  refine wpAny_holding (wpAny_bind (wpAny_setState_of ho hd hf ?_))
  dsimp only
  rw [byScan_of hsc hb hel]
  simp only [↓reduceIte]
  unfold setAddByScan
  refine wpAny_bind ?_
  refine wpAny_bind (wpAny_rule ?_)
  refine wpAny_bind (wpAny_setScan_of hkey ho hd hf hel ?_)
  cases hfi : List.findIdx? (fun e => (PySem.strKind P w).is k e.2) es.toList with
  | some j =>
    dsimp only
    obtain ⟨hj, pj, _⟩ := List.findIdx?_eq_some_iff_getElem.mp hfi
    have hSk : S k = true := (hm k).2 ((goodS_mem (P := P) (w := w) g k).2 ⟨es.toList[j], List.getElem_mem hj, pj⟩)
    refine wpAny_pure (wpAny_pure ?_)
    have q := hQ s.heap (Heap.SameBut.refl a s.heap) ⟨o, es, ep, t, ho, hex, hd, g, nd, fun i => by
      rw [Bool.or_eq_true, decide_eq_true_eq, ← hm i]
      exact ⟨fun z => z.elim id (fun e => e ▸ hSk), .inl⟩, hb, hf, by rw [if_pos hSk]; exact hn, hr, hl⟩
    rw [hSk] at q
    exact q
  | none =>
    dsimp only
    have hnk : k ∉ es.toList.map keyOfS := fun z => by
      obtain ⟨e, he, q⟩ := (goodS_mem (P := P) (w := w) g k).1 z
      have c := List.findIdx?_eq_none_iff.mp hfi e he
      rw [q] at c
      cases c
    have hSk : S k = false := by
      cases q : S k with
      | false => rfl
      | true => exact absurd ((hm k).1 q) hnk
    have hgw : ∀ (b : Bool) {s₁ : Shared} {Q' : Unit → Shared → Prop}, Q' () s₁ → wpAny (model P w) A (match b with | true => rule "set.scan.the-table-gave-way" | false => pure ()) Q' E s₁ :=
      fun b s₁ Q' q => by cases b <;> first | exact wpAny_pure q | exact wpAny_rule q
    have pm := layNew_perm t es ((PySem.strKind P w).hash k) (.str k tk)
    have hf1 := layNew_fits t es ((PySem.strKind P w).hash k) (.str k tk)
    have hr1 := layNew_ris t es ((PySem.strKind P w).hash k) (.str k tk) hr
    have hl1 := layNew_led t es ((PySem.strKind P w).hash k) (.str k tk)
    generalize layNew t es ((PySem.strKind P w).hash k) (.str k tk) = Z at pm hf1 hr1 hl1 ⊢
    obtain ⟨es1, t1, wasDummy, gave⟩ := Z
    dsimp only at pm hf1 hr1 hl1 ⊢
    rw [Array.toList_push] at pm
    have pc : es1.toList.Perm (((PySem.strKind P w).hash k, Value.str k tk) :: es.toList) := pm.trans (List.perm_append_singleton _ _)
    have pk : (es1.toList.map keyOfS).Perm (k :: es.toList.map keyOfS) := pc.map keyOfS
    have g1 : ∀ e ∈ es1.toList, GoodES w e := fun e he => by
      rcases List.mem_cons.mp (pc.mem_iff.mp he) with z | z
      · rw [z]; exact ⟨k, tk, rfl, rfl⟩
      · exact g e z
    have nd1 : (es1.toList.map keyOfS).Nodup := pk.nodup_iff.mpr (List.nodup_cons.mpr ⟨hnk, nd⟩)
    have m1 : ∀ i, (S i || decide (i = k)) = true ↔ i ∈ es1.toList.map keyOfS := fun i => by
      rw [Bool.or_eq_true, decide_eq_true_eq, hm i, pk.mem_iff, List.mem_cons]
      exact Or.comm
    have hsz : es1.size = n + 1 := by rw [← Array.length_toList, pc.length_eq, List.length_cons, Array.length_toList, hn]
    have hb1 : es1.size < scanBound := by rw [hsz]; exact room
    have hled : w.params.followText "set-order" = true ∨ t1.led = true := hl.imp id fun z => by rw [hl1]; exact z
    have fin : ∀ h', Heap.SameBut a s.heap h' → SetRS w h' a (fun j => S j || decide (j = k)) es1.size → Q true { s with heap := h' } := fun h' sb r => by
      have q := hQ h' sb
      rw [hSk] at q
      rw [hsz] at r
      exact q r
    refine wpAny_bind (hgw _ ?_)
    split
    · refine wpAny_bind ?_
      rw [hashByValue_scannable 8 hsc]
      refine wpAny_pure ?_
      refine setRS_add_tail ?_ ho hex hd g1 nd1 m1 hb1 ?_ ?_ ?_ ?_
      · intro b s₁ Q' q; cases b <;> first | exact wpAny_pure q | exact wpAny_rule q
      · first | (split <;> first | exact hf1 | exact SetTable.fits_plain_off hf1) | exact hf1
      · first | (split <;> exact hr1) | exact hr1
      · first | (split <;> exact hled) | exact hled
      · intro h' sb r; dsimp only; exact wpAny_pure (fin h' sb r)
    · refine wpAny_bind (wpAny_pure ?_)
      simp only [↓reduceIte]
      refine setRS_add_tail ?_ ho hex hd g1 nd1 m1 hb1 hf1 hr1 hled ?_
      · intro b s₁ Q' q; cases b <;> first | exact wpAny_pure q | exact wpAny_rule q
      · intro h' sb r; dsimp only; exact wpAny_pure (fin h' sb r)
end

section
variable {prog : Program} {w : World} {A : Around} {E : Value → Shared → Prop} {s : Shared}
theorem code_set_led_1 (a : Value) {Q₁ : Value → Shared → Prop}
    (h : Q₁ (.ref s.heap.objs.size) { s with heap := s.heap.push { cls := .type "set", dict := none, data := .set #[] 0 (.fresh 0 0 (!w.params.followText "set-order")) } }) :
    codeAny (model prog w) A (.call (.builtin "set.__new__") ⟨[.type "set", a], []⟩) (wants Q₁ E) s := by
  refine codeAny_of_tree ?_
  show wpAny _ A.in1 (do checkBuiltinCall "set.__new__" ⟨[.type "set", a], []⟩; again (.builtin "set.__new__" ⟨[.type "set", a], []⟩)) _ _ s
  refine wpAny_bind (wpAny_of_eq (PySem.F.newCall_set_1 a) (wpAny_pure ⟨plainId_quiet PySem.F.plain_set_new _, codeAny_builtin PySem.F.entry_set_new ?_⟩))
  rw [Around.under_plainId PySem.F.plain_set_new _]
  unfold Builtin.«set.__new__» Builtin.Frozenset.newClass
  have hsub := sub_set_self
  obtain ⟨hp, g, d, tk, os⟩ := s
  dsimp only
  wp_walk
  refine wpAny_askSetting (wpAny_pure ?_)
  dsimp only
  simp only [newObj]
  refine wpAny_bind (wpAny_alloc (wpAny_pure ?_))
  exact wpAny_pure h
theorem setRS_fresh' {h : Heap} {a : Addr} {led : Bool} (hl : led = (!w.params.followText "set-order")) (e : h.get? a = some { cls := .type "set", dict := none, data := .set #[] 0 (.fresh 0 0 led) }) : SetRS w h a (fun _ => false) 0 :=
  ⟨_, #[], 0, _, e, ⟨rfl, rfl, rfl⟩, rfl, (fun e he => by simp at he), (by simp), (fun k => by simp), (by decide), (by rfl), rfl, List.Pairwise.nil, by
    subst hl
    show _ ∨ (!w.params.followText "set-order") = true
    cases w.params.followText "set-order"
    · exact .inr rfl
    · exact .inl rfl⟩
end
section
variable {prog : Program} {w : World} {A : Around} {R : Result → Shared → Prop} {I : Addr} {fp wr : List Addr} {G : Array GenState → Array GenState → Prop} {n : Nat} {P : Nat → Value → Prop} {St : Nat → Shared → Prop}
theorem take_any {xs : List Str} {i : Nat} (h : i < xs.length) (k : Str) : ((xs.take i).any (· == k) || decide (k = xs.getD i Str.empty)) = (xs.take (i + 1)).any (· == k) := by
  rw [List.take_succ, List.getElem?_eq_getElem h, List.any_append]
  have e : xs.getD i Str.empty = xs[i] := by rw [List.getD_eq_getElem?_getD, List.getElem?_eq_getElem h]; rfl
  rw [e]
  congr 1
  show decide (k = xs[i]) = (List.any [xs[i]] (· == k))
  simp only [List.any_cons, List.any_nil, Bool.or_false]
  by_cases q : k = xs[i]
  · rw [decide_eq_true q]; exact (beq_iff_eq.mpr q.symm).symm
  · rw [decide_eq_false q]; exact (beq_eq_false_iff_ne.mpr (Ne.symm q)).symm
theorem loopRS (W : WalksS prog w A.in1 I fp wr G n P St) (S : Addr) (hSf : S ∉ fp) (xs : List Str) (hsz : xs.length = n) (hn1 : n + 1 < scanBound)
    (hval : ∀ i v, P i v → ∃ t, v = .str (xs.getD i Str.empty) t) :
    ∀ (k i : Nat) (s : Shared), n - i = k → i ≤ n → St i s →
      (∃ m, m ≤ i ∧ SetRS w s.heap S (fun k' => (xs.take i).any (· == k')) m) →
      (∀ s', Moved (S :: wr) G s s' → (∃ m, m ≤ xs.length ∧ SetRS w s'.heap S (fun k' => xs.any (· == k')) m) → R (.ok (.ret .none)) s') →
      codeAny (model prog w) A (.builtin "set.update.loop" ⟨[.ref S, .ref I], []⟩) R s := by
  have hSw : S ∉ wr := fun h => hSf (W.sub _ h)
  have hsub : ∀ b ∈ wr, b ∈ S :: wr := fun b hb => List.mem_cons_of_mem _ hb
  intro k
  induction k with
  | zero =>
    intro i s hk hi hst hS hR
    have hin : i = n := by omega
    subst hin
    refine codeAny_builtin PyProof.Rows.F.entry_set_update_loop ?_
    rw [Around.under_plainId PyProof.Rows.F.plain_set_update_loop _]
    show wpAny _ A.in1 (pyNext (.ref I) >>= _) _ _ s
    refine wpAny_bind (W.done s _ _ hst fun s' hm => ?_)
    show wpAny _ A.in1 (ret Value.none) _ _ s'
    obtain ⟨m, hm1, hS⟩ := hS
    rw [← hsz, List.take_length] at hS
    exact wpAny_pure (hR s' (hm.mono hsub) ⟨m, by omega, hS.at fun o e => hm.heap S o hSw e⟩)
  | succ k ih =>
    intro i s hk hi hst hS hR
    have hlt : i < n := by omega
    refine codeAny_builtin PyProof.Rows.F.entry_set_update_loop ?_
    rw [Around.under_plainId PyProof.Rows.F.plain_set_update_loop _]
    show wpAny _ A.in1 (pyNext (.ref I) >>= _) _ _ s
    refine wpAny_bind (W.item i s _ _ hlt hst fun v s' hP hst' hm => ?_)
    obtain ⟨t, rfl⟩ := hval i v hP
    obtain ⟨m, hm1, hS⟩ := hS
    have hS' : SetRS w s'.heap S (fun k' => (xs.take i).any (· == k')) m := hS.at fun o e => hm.heap S o hSw e
    show wpAny _ A.in1 (holding [Value.str (xs.getD i Str.empty) t] (setAdd S (.str (xs.getD i Str.empty) t)) >>= _) _ _ s'
    refine wpAny_bind (wpAny_holding ?_)
    unfold setAdd
    refine wpAny_holding ?_
    refine wpAny_bind ((PySem.strKind prog w).pyHash (k := xs.getD i Str.empty) (strKind_is _ _ _ _) ?_)
    refine setRS_add_hashed (s := { s' with toks := s'.toks + 1 }) hS' (by omega) fun h' hsb hS2 => ?_
    have hSi : ∃ m, m ≤ i + 1 ∧ SetRS w h' S (fun k' => (xs.take (i + 1)).any (· == k')) m := ⟨_, by split <;> omega, hS2.congr fun k' => (take_any (by omega) k').symm⟩
    refine wpAny_pure ⟨plainId_quiet PyProof.Rows.F.plain_set_update_loop _, ih (i + 1) _ (by omega) hlt (W.frame _ s' _ _ hst' (Nat.le_succ _) fun b hb o e => ?_) hSi fun s'' hm'' hS'' => ?_⟩
    · rw [hsb.2 b (fun h : b = S => hSf (by rw [← h]; exact hb))]; exact e
    · refine hR s'' (Moved.trans W.gtrans ((hm.mono hsub).then_heap (Nat.le_succ _) fun b o hb e => ?_) hm'') hS''
      rw [hsb.2 b (fun h : b = S => hb (by rw [h]; exact List.mem_cons_self))]; exact e
end
section
variable {prog : Program} {w : World} {A : Around} {E : Value → Shared → Prop} {s : Shared}
set_option maxHeartbeats 3200000 in
theorem call_setRS_list {l : Addr} {items : Array Value} {xs : List Str} {Q : Value → Shared → Prop}
    (hh : A.handled = none) (hl : s.heap.IsList l items) (hi : PyProof.Rows.StrsAre items.toList xs) (hn1 : xs.length + 1 < scanBound)
    (h : ∀ (h' : Heap) (tk : Nat), (∃ m, m ≤ xs.length ∧ SetRS w h' s.heap.objs.size (fun k' => xs.any (· == k')) m) →
      (∀ b o, b < s.heap.objs.size → s.heap.get? b = some o → h'.get? b = some o) → Q (.ref s.heap.objs.size) { s with heap := h', toks := tk }) :
    wpAny (model prog w) A (call (.type "set") [.ref l]) Q E s := by
  obtain ⟨c, tl, hmro⟩ := PySem.F.called_set.mro
  have hmade := PySem.F.called_set.made
  have hsub := PySem.F.called_set.sub
  refine wpAny_call (codeAny_of_tree ?_)
  show wpAny _ _ (callAny (.type "set") _) _ _ _
  refine wpAny_pure ⟨Code.quiet_builtin _ (by decide +kernel), codeAny_builtin PySem.F.entry_type_call ?_⟩
  rw [Around.under_plain (weight_type_call_type "set" [.ref l] []) rfl]
  have h1 := PySem.F.called_set.notType
  have h2 := PySem.F.called_set.canCreate
  have hct := PySem.F.typeCall_set_1 (.ref l)
  repeat (any_goals (first | assumption | wp_step))

  refine codeAny_mono (code_set_led_1 (.ref l) (E := E) (Q₁ := fun obj s₁ => ∃ led : Bool, led = (!w.params.followText "set-order") ∧ obj = .ref s.heap.objs.size ∧ s₁ = { s with heap := s.heap.push { cls := .type "set", dict := none, data := .set #[] 0 (.fresh 0 0 led) } }) ⟨_, rfl, rfl, rfl⟩) fun r s₁ hr => ?_
  cases r with
  | error e => exact hr
  | ok fl =>
    cases fl with
    | ret obj =>
      obtain ⟨led, hled, rfl, rfl⟩ := hr
      have hS : (s.heap.push { cls := .type "set", dict := none, data := .set #[] 0 (.fresh 0 0 led) }).get? s.heap.objs.size = some { cls := .type "set", dict := none, data := .set #[] 0 (.fresh 0 0 led) } := Heap.get?_push_size _ rfl
      have hT : Shared.TypeIs { s with heap := s.heap.push { cls := .type "set", dict := none, data := .set #[] 0 (.fresh 0 0 led) } } (.ref s.heap.objs.size) "set" := ⟨_, hS, rfl⟩
      have hli := PySem.F.called_set.init.lookup
      have hbi := PySem.F.called_set.init.bind (.ref s.heap.objs.size)
      repeat (any_goals (first | assumption | wp_step))

      refine codeAny_mono (codeAny_call_builtin (R := wants (fun r s₂ => r = .none ∧ ∃ h' tk, s₂ = { s with heap := h', toks := tk } ∧
          (∃ m, m ≤ xs.length ∧ SetRS w h' s.heap.objs.size (fun k' => xs.any (· == k')) m) ∧
          (∀ b o, b < s.heap.objs.size → s.heap.get? b = some o → h'.get? b = some o)) E) PySem.F.called_set.init.plain PySem.F.entry_set_init (check_set_init_1 hT ?_)) fun r₂ s₂ hr₂ => ?_
      · obtain ⟨ol, hol, hcl, nl, hdl⟩ := hl
        obtain ⟨ocls, odict, odata, oslots⟩ := ol
        simp only at hcl hdl
        subst hcl; subst hdl
        have hol' : (s.heap.push { cls := .type "set", dict := none, data := .set #[] 0 (.fresh 0 0 led) }).get? l = some { cls := .type "list", dict := odict, data := .seq items nl, slots := oslots } := Heap.get?_push_of_some _ hol
        have hsls := PySem.F.sub_list_set
        have hslf := PySem.F.sub_list_frozenset
        have hne : (Value.type "list" == Value.type "dict") = false := by decide
        have hl1 : (s.heap.push { cls := .type "set", dict := none, data := .set #[] 0 (.fresh 0 0 led) }).IsList l items := ⟨_, hol', rfl, nl, rfl⟩
        unfold Builtin.«set.__init__» noKeywords Builtin.Frozenset.updateFrom
        generalize hPI : pyIter = PI
        wp_walk
        subst hPI

        refine wpAny_pyIter_list hl1 ?_
        refine wpAny_bind (wpAny_runValue ?_)
        have hlS : l < s.heap.objs.size := Heap.lt_size hol
        have hh3 : A.in1.in1.in1.handled = none := by simp [hh]
        have hneI : l ≠ (s.heap.push { cls := .type "set", dict := none, data := .set #[] 0 (.fresh 0 0 led) }).objs.size := by
          rw [Heap.size_push]; exact Nat.ne_of_lt (Nat.lt_succ_of_lt hlS)
        have hSf : s.heap.objs.size ∉ [(s.heap.push { cls := .type "set", dict := none, data := .set #[] 0 (.fresh 0 0 led) }).objs.size, l] := by
          rw [Heap.size_push]; simp only [List.mem_cons, List.mem_singleton, List.not_mem_nil, or_false, not_or]
          exact ⟨Nat.ne_of_lt (Nat.lt_succ_self _), Nat.ne_of_gt hlS⟩
        have hsz : xs.length = items.size := by rw [← StrsAre.len_eq hi, Array.length_toList]
        have hval : ∀ (i : Nat) (v : Value), items[i]? = some v → ∃ t, v = .str (xs.getD i Str.empty) t := fun i v hv => SS.strs_at hi i v (by rw [Array.getElem?_toList]; exact hv)
        refine loopRS ((Walks.list hh3 _ l hneI items).toS) s.heap.objs.size
          hSf xs hsz (by rw [← hsz]; exact hn1) hval (items.size - 0) 0 _ (by omega) (Nat.zero_le _)
          ⟨⟨_, Heap.get?_push_size _ rfl, rfl, rfl⟩, (hl1.push _)⟩ ?hS0 ?hR
        case hS0 =>
          have hget : ((s.heap.push { cls := .type "set", dict := none, data := .set #[] 0 (.fresh 0 0 led) }).push { cls := .type "list_iterator", data := .fields #[.ref l, .int 0 0] }).get? s.heap.objs.size
              = some { cls := .type "set", dict := none, data := .set #[] 0 (.fresh 0 0 led) } := Heap.get?_push_of_some _ hS
          exact ⟨0, Nat.le_refl _, (setRS_fresh' hled hget)⟩
        case hR =>
          intro s' hm hS'
          obtain ⟨h', g', d', tk', os'⟩ := s'
          have eg : g' = s.gens := hm.gens
          have ed : d' = s.drawn := hm.drawn
          have eo : os' = s.os := hm.os
          subst eg; subst ed; subst eo
          show wpAny _ _ _ _ _ _
          refine wpAny_pure ?_
          show wpAny _ _ (ret Value.none) _ _ _
          refine wpAny_pure ⟨rfl, h', tk', rfl, hS', fun b o hb e => ?_⟩
          have hb1 : b ≠ s.heap.objs.size := Nat.ne_of_lt hb
          have hb2 : b ≠ (s.heap.push { cls := .type "set", dict := none, data := .set #[] 0 (.fresh 0 0 led) }).objs.size := by
            rw [Heap.size_push]; exact Nat.ne_of_lt (Nat.lt_succ_of_lt hb)
          exact hm.heap b o (by simp only [List.mem_cons, List.mem_singleton, List.not_mem_nil, or_false, not_or]; exact ⟨hb1, hb2⟩) (Heap.get?_push_of_some _ (Heap.get?_push_of_some _ e))

      · cases r₂ with
        | error e => exact hr₂
        | ok fl₂ =>
          cases fl₂ with
          | ret r =>
            obtain ⟨rfl, h', tk, rfl, hS', hk'⟩ := hr₂
            repeat (any_goals (first | assumption | wp_step))
            exact h _ _ hS' hk'
          | _ => exact hr₂.elim
    | _ => exact hr.elim

set_option maxHeartbeats 3200000 in
theorem call_setRS_tuple {l : Addr} {items : Array Value} {xs : List Str} {Q : Value → Shared → Prop}
    (hh : A.handled = none) (hl : s.heap.IsTuple l items) (hi : PyProof.Rows.StrsAre items.toList xs) (hn1 : xs.length + 1 < scanBound)
    (h : ∀ (h' : Heap) (tk : Nat), (∃ m, m ≤ xs.length ∧ SetRS w h' s.heap.objs.size (fun k' => xs.any (· == k')) m) →
      (∀ b o, b < s.heap.objs.size → s.heap.get? b = some o → h'.get? b = some o) → Q (.ref s.heap.objs.size) { s with heap := h', toks := tk }) :
    wpAny (model prog w) A (call (.type "set") [.ref l]) Q E s := by
  obtain ⟨c, tl, hmro⟩ := PySem.F.called_set.mro
  have hmade := PySem.F.called_set.made
  have hsub := PySem.F.called_set.sub
  refine wpAny_call (codeAny_of_tree ?_)
  show wpAny _ _ (callAny (.type "set") _) _ _ _
  refine wpAny_pure ⟨Code.quiet_builtin _ (by decide +kernel), codeAny_builtin PySem.F.entry_type_call ?_⟩
  rw [Around.under_plain (weight_type_call_type "set" [.ref l] []) rfl]
  have h1 := PySem.F.called_set.notType
  have h2 := PySem.F.called_set.canCreate
  have hct := PySem.F.typeCall_set_1 (.ref l)
  repeat (any_goals (first | assumption | wp_step))

  refine codeAny_mono (code_set_led_1 (.ref l) (E := E) (Q₁ := fun obj s₁ => ∃ led : Bool, led = (!w.params.followText "set-order") ∧ obj = .ref s.heap.objs.size ∧ s₁ = { s with heap := s.heap.push { cls := .type "set", dict := none, data := .set #[] 0 (.fresh 0 0 led) } }) ⟨_, rfl, rfl, rfl⟩) fun r s₁ hr => ?_
  cases r with
  | error e => exact hr
  | ok fl =>
    cases fl with
    | ret obj =>
      obtain ⟨led, hled, rfl, rfl⟩ := hr
      have hS : (s.heap.push { cls := .type "set", dict := none, data := .set #[] 0 (.fresh 0 0 led) }).get? s.heap.objs.size = some { cls := .type "set", dict := none, data := .set #[] 0 (.fresh 0 0 led) } := Heap.get?_push_size _ rfl
      have hT : Shared.TypeIs { s with heap := s.heap.push { cls := .type "set", dict := none, data := .set #[] 0 (.fresh 0 0 led) } } (.ref s.heap.objs.size) "set" := ⟨_, hS, rfl⟩
      have hli := PySem.F.called_set.init.lookup
      have hbi := PySem.F.called_set.init.bind (.ref s.heap.objs.size)
      repeat (any_goals (first | assumption | wp_step))

      refine codeAny_mono (codeAny_call_builtin (R := wants (fun r s₂ => r = .none ∧ ∃ h' tk, s₂ = { s with heap := h', toks := tk } ∧
          (∃ m, m ≤ xs.length ∧ SetRS w h' s.heap.objs.size (fun k' => xs.any (· == k')) m) ∧
          (∀ b o, b < s.heap.objs.size → s.heap.get? b = some o → h'.get? b = some o)) E) PySem.F.called_set.init.plain PySem.F.entry_set_init (check_set_init_1 hT ?_)) fun r₂ s₂ hr₂ => ?_
      · obtain ⟨ol, hol, hcl, nl, hdl⟩ := hl
        obtain ⟨ocls, odict, odata, oslots⟩ := ol
        simp only at hcl hdl
        subst hcl; subst hdl
        have hol' : (s.heap.push { cls := .type "set", dict := none, data := .set #[] 0 (.fresh 0 0 led) }).get? l = some { cls := .type "tuple", dict := odict, data := .seq items nl, slots := oslots } := Heap.get?_push_of_some _ hol
        have hsls := PySem.F.sub_tuple_set
        have hslf := PySem.F.sub_tuple_frozenset
        have hne : (Value.type "tuple" == Value.type "dict") = false := by decide
        have hl1 : (s.heap.push { cls := .type "set", dict := none, data := .set #[] 0 (.fresh 0 0 led) }).IsTuple l items := ⟨_, hol', rfl, nl, rfl⟩
        unfold Builtin.«set.__init__» noKeywords Builtin.Frozenset.updateFrom
        generalize hPI : pyIter = PI
        wp_walk
        subst hPI

        refine wpAny_pyIter_tuple hl1 ?_
        refine wpAny_bind (wpAny_runValue ?_)
        have hlS : l < s.heap.objs.size := Heap.lt_size hol
        have hh3 : A.in1.in1.in1.handled = none := by simp [hh]
        have hneI : l ≠ (s.heap.push { cls := .type "set", dict := none, data := .set #[] 0 (.fresh 0 0 led) }).objs.size := by
          rw [Heap.size_push]; exact Nat.ne_of_lt (Nat.lt_succ_of_lt hlS)
        have hSf : s.heap.objs.size ∉ [(s.heap.push { cls := .type "set", dict := none, data := .set #[] 0 (.fresh 0 0 led) }).objs.size, l] := by
          rw [Heap.size_push]; simp only [List.mem_cons, List.mem_singleton, List.not_mem_nil, or_false, not_or]
          exact ⟨Nat.ne_of_lt (Nat.lt_succ_self _), Nat.ne_of_gt hlS⟩
        have hsz : xs.length = items.size := by rw [← StrsAre.len_eq hi, Array.length_toList]
        have hval : ∀ (i : Nat) (v : Value), items[i]? = some v → ∃ t, v = .str (xs.getD i Str.empty) t := fun i v hv => SS.strs_at hi i v (by rw [Array.getElem?_toList]; exact hv)
        refine loopRS ((Walks.tuple hh3 _ l hneI items).toS) s.heap.objs.size
          hSf xs hsz (by rw [← hsz]; exact hn1) hval (items.size - 0) 0 _ (by omega) (Nat.zero_le _)
          ⟨⟨_, Heap.get?_push_size _ rfl, rfl, rfl⟩, (hl1.push _)⟩ ?hS0 ?hR
        case hS0 =>
          have hget : ((s.heap.push { cls := .type "set", dict := none, data := .set #[] 0 (.fresh 0 0 led) }).push { cls := .type "tuple_iterator", data := .fields #[.ref l, .int 0 0] }).get? s.heap.objs.size
              = some { cls := .type "set", dict := none, data := .set #[] 0 (.fresh 0 0 led) } := Heap.get?_push_of_some _ hS
          exact ⟨0, Nat.le_refl _, (setRS_fresh' hled hget)⟩
        case hR =>
          intro s' hm hS'
          obtain ⟨h', g', d', tk', os'⟩ := s'
          have eg : g' = s.gens := hm.gens
          have ed : d' = s.drawn := hm.drawn
          have eo : os' = s.os := hm.os
          subst eg; subst ed; subst eo
          show wpAny _ _ _ _ _ _
          refine wpAny_pure ?_
          show wpAny _ _ (ret Value.none) _ _ _
          refine wpAny_pure ⟨rfl, h', tk', rfl, hS', fun b o hb e => ?_⟩
          have hb1 : b ≠ s.heap.objs.size := Nat.ne_of_lt hb
          have hb2 : b ≠ (s.heap.push { cls := .type "set", dict := none, data := .set #[] 0 (.fresh 0 0 led) }).objs.size := by
            rw [Heap.size_push]; exact Nat.ne_of_lt (Nat.lt_succ_of_lt hb)
          exact hm.heap b o (by simp only [List.mem_cons, List.mem_singleton, List.not_mem_nil, or_false, not_or]; exact ⟨hb1, hb2⟩) (Heap.get?_push_of_some _ (Heap.get?_push_of_some _ e))

      · cases r₂ with
        | error e => exact hr₂
        | ok fl₂ =>
          cases fl₂ with
          | ret r =>
            obtain ⟨rfl, h', tk, rfl, hS', hk'⟩ := hr₂
            repeat (any_goals (first | assumption | wp_step))
            exact h _ _ hS' hk'
          | _ => exact hr₂.elim
    | _ => exact hr.elim

end
end DlS
set_option Elab.async false
set_option linter.all false
set_option maxRecDepth 100000
set_option maxHeartbeats 4000000
/-! DlSet2: sorted(set(texts)). -/
namespace DlS
open PySem L2 PySem.Spec PyProof.Rows
section
variable {P : Program} {w : World} {A : Around} {E : Value → Shared → Prop} {s : Shared} {a : Addr}
theorem strs_of : ∀ (l : List Value), (∀ v ∈ l, ∃ k tk, v = Value.str k tk) → StrsAre l (l.map strOf)
  | [], _ => .nil
  | v :: l, h => by
    obtain ⟨k, tk, rfl⟩ := h v List.mem_cons_self
    exact .cons k tk (strs_of l fun u hu => h u (List.mem_cons_of_mem _ hu))
theorem sorted_setRS {S : Str → Bool} {n : Nat} {Q : Value → Shared → Prop} (R : SetRS w s.heap a S n) (hh : A.handled = none) (h64 : n < 64)
    (hQ : ∀ s' p (out : Array Value) (c : Nat) (ns : List Str), (∀ b o, s.heap.get? b = some o → s'.heap.get? b = some o) → s'.gens = s.gens → s'.os = s.os → s.heap.objs.size ≤ p →
      s'.heap.get? p = some (seqObj "list" out c) → StrsAre out.toList ns → sortedS ns = true → ns.Nodup → (∀ k, k ∈ ns ↔ S k = true) → ns.length = n → Q (.ref p) s') :
    wpAny (model P w) A (call (.builtin "sorted") [.ref a]) Q E s := by
  obtain ⟨o, es, ep, t, ho, hex, hd, g, nd, hm, hb, hf, hn, hr, hl⟩ := R
  refine Calls.call_function_entry kind_sorted plain_sorted entry_sorted (args_sorted1 _) ?_
  unfold Builtin.«sorted»
  refine wpAny_bind (m := checkCount "sorted" 1 1 _) (wpAny_pure ?_)
  refine wpAny_bind (collect_set (A := A.in1) hh ⟨o, ho, hex.1, hd⟩ hf hb hr hl fun s1 vs k1 hz g1 o1 pm => ?_)
  have hvl : vs.length = n := by rw [pm.length_eq, List.length_map, Array.length_toList]; exact hn
  have hI : StrsAre vs (vs.map strOf) := strs_of vs fun v hv => by
    obtain ⟨e, he, q⟩ := List.mem_map.mp (pm.mem_iff.mp hv)
    obtain ⟨k, tk, h1, _⟩ := g e he
    exact ⟨k, tk, by rw [← q]; exact h1⟩
  have pk : (vs.map strOf).Perm (es.toList.map keyOfS) := by
    have q := pm.map strOf
    rw [List.map_map] at q
    refine q.trans (List.Perm.of_eq (List.map_congr_left fun e he => ?_))
    obtain ⟨k, tk, h1, _⟩ := g e he
    show strOf e.2 = keyOfS e
    unfold keyOfS
    rw [h1]; rfl
  refine wpAny_bind (wpAny_newList ?_ (by rw [hvl, sizeLine_eq]; omega))
  have hoL : (s1.heap.push (seqObj "list" vs.toArray 0)).get? s1.heap.objs.size = some (seqObj "list" vs.toArray 0) := Heap.get?_push_size _ rfl
  refine wpAny_bind (wpAny_holding (wpAny_call_entry slot_list_sort ⟨_, hoL, rfl⟩ entry_list_sort (list_sort_treeK (κ := strKind) strKind_oneLt hoL hI.keysOf (fun v₁ v₂ rest e => keyKind_strs (by rw [← e]; exact hI)) (by rw [hvl]; exact h64) fun st' hp hs => ⟨_, rfl, ?_⟩) (args_list_sort _)))
  obtain ⟨ns', a1, a2, a3⟩ := sorted_out_str hI hp hs
  obtain ⟨c, hc⟩ := sortedHeap_at (vs := vs) (out := (arrOf st').map (·.2)) hoL
  have pn : ns'.Perm (es.toList.map keyOfS) := a2.trans pk
  refine wpAny_pure ⟨_, rfl, hQ _ s1.heap.objs.size _ c ns' (fun b u e => ?_) g1 o1 hz hc a1 a3 (pn.nodup_iff.mpr nd) (fun k => by rw [pn.mem_iff, ← hm k]) ?_⟩
  · have q := k1 b u e
    have hlt := Heap.lt_size q
    show (sortedHeap (s1.heap.push (seqObj "list" vs.toArray 0)) s1.heap.objs.size vs _).get? b = some u
    rw [sortedHeap_old (Nat.ne_of_lt hlt) (by rw [size_push']; exact Nat.lt_succ_of_lt hlt)]
    exact Heap.get?_push_of_some _ q
  · rw [pn.length_eq, List.length_map, Array.length_toList]; exact hn
end
end DlS
namespace Dl
open PySem L2 Evl
theorem any_mem (xs : List Str) (k : Str) : xs.any (· == k) = true ↔ k ∈ xs := by
  rw [List.any_eq_true]
  constructor
  · rintro ⟨x, hx, e⟩; exact (beq_iff_eq.mp e) ▸ hx
  · intro h; exact ⟨k, h, beq_iff_eq.mpr rfl⟩
/-- a set of texts, by what is true of its object -/
def setO (w : World) (p : Addr) (ss : List Str) (m : Nat) : HO := .ext fun h => DlS.SetRS w h p (fun k => ss.any (· == k)) m
def rSet (K : PySem.W.Frag) (w : World) : List V → Hp → VK → Prop := fun xs H Q => ∃ a ss, xs = [V.ref a] ∧ (SqL K H a (ss.map V.str) ∨ SqT K H a (ss.map V.str)) ∧ ss.length ≤ 100 ∧ ∀ p m, m ≤ ss.length → H p = none → Q (.ref p) (upd H p (setO w p ss m))
theorem setO_ok {P : Program} {w : World} {H : Hp} {h : Heap} {p : Addr} {ss : List Str} {m : Nat} (R : DlS.SetRS w h p (fun k => ss.any (· == k)) m) : ObjOk P w H h p (setO w p ss m) :=
  ⟨R, (by obtain ⟨o, _, _, _, e, _⟩ := R; exact ⟨o, e⟩), fun _ _ q k => q.at k⟩
theorem call_setS {X : Cx} (hc : X.calm = true) : CallR X (.type "set") (rSet X.K X.w) := by
  intro pins s σ H vs us Q I r h
  obtain ⟨a, ss, rfl, hs, hl, q⟩ := h
  have hb : ss.length + 1 < scanBound := Nat.lt_of_le_of_lt (Nat.succ_le_succ hl) (by decide)
  rw [Vals.ref1 r]
  have fin : ∀ (h' : Heap) (tk : Nat), (∃ m, m ≤ ss.length ∧ DlS.SetRS X.w h' s.heap.objs.size (fun k' => ss.any (· == k')) m) → (∀ b o, b < s.heap.objs.size → s.heap.get? b = some o → h'.get? b = some o) → EP X pins σ Q (.ref s.heap.objs.size) { s with heap := h', toks := tk } := fun h' tk ⟨m, hm, R⟩ k => by
    refine ⟨.ref s.heap.objs.size, _, I.laid (t' := tk) (h' := h') (fun b u e => k b u (Heap.lt_size e) e) (Nat.le_refl _) (setO_ok R), rfl, q s.heap.objs.size m hm (I.hok.fresh (Nat.le_refl _))⟩
  rcases hs with hs | hs
  · obtain ⟨its, rv, hi, _⟩ := I.list hs
    exact DlS.call_setRS_list (I.ok.hd hc) hi.isList rv.strs hb fin
  · obtain ⟨its, rv, hi, _⟩ := I.tuple hs
    exact DlS.call_setRS_tuple (I.ok.hd hc) hi rv.strs hb fin
def rSortedO (w : World) : List V → Hp → VK → Prop := fun xs H Q => ∃ p ss m, xs = [V.ref p] ∧ H p = some (setO w p ss m) ∧ m < 64 ∧
  ∀ (ys : List Str) (l : Addr), PyProof.Rows.sortedS ys = true → ys.Nodup → (∀ k, k ∈ ys ↔ k ∈ ss) → H l = none → Q (.ref l) (upd H l (.lst (ys.map V.str)))
theorem call_sortedO {X : Cx} (hc : X.calm = true) : CallR X (.builtin "sorted") (rSortedO X.w) := by
  intro pins s σ H vs us Q I r h
  obtain ⟨p, ss, m, rfl, hp, h64, q⟩ := h
  rw [Vals.ref1 r]
  obtain ⟨R, _, _⟩ := (show ObjOk X.prog X.w H s.heap p (setO X.w p ss m) from I.hok p _ hp)
  refine DlS.sorted_setRS R (I.ok.hd hc) h64 fun s' l out c ns k g o hz hl hS hs nd hm hn => ?_
  obtain ⟨sh, sg, sd, st, so⟩ := s'
  obtain rfl : sg = s.gens := g
  obtain rfl : so = s.os := o
  have hlen : (ns.map V.str).length ≤ sizeLine := by rw [List.length_map, hn]; exact small64 h64
  refine ⟨.ref l, upd H l (.lst (ns.map V.str)), ?_, rfl, q ns l hs nd (fun k => (hm k).trans (any_mem ss k)) (I.hok.fresh hz)⟩
  exact I.call (ch := []) (h' := sh) (g' := s.gens) (d' := sd) (t' := st) (Un.laid k hz (I.hok.fresh hz)) (I.hok.laid k hz ⟨hlen, out.toList, c, vals_of_strs hS, hl⟩) I.bare fun _ z => nomatch z
/-! ### as data: sorted(set(e)) -/
def dedup : List Str → List Str
  | [] => []
  | x :: xs => if x ∈ xs then dedup xs else x :: dedup xs
theorem mem_dedup {x : Str} : ∀ {xs : List Str}, x ∈ dedup xs ↔ x ∈ xs
  | [] => Iff.rfl
  | y :: ys => by
    unfold dedup
    split
    · rename_i h
      rw [mem_dedup, List.mem_cons]
      exact ⟨.inr, fun z => z.elim (fun e => e ▸ h) id⟩
    · rw [List.mem_cons, List.mem_cons, mem_dedup]
theorem nodup_dedup : ∀ (xs : List Str), (dedup xs).Nodup
  | [] => List.nodup_nil
  | y :: ys => by
    unfold dedup
    split
    · exact nodup_dedup ys
    · rename_i h
      exact List.nodup_cons.mpr ⟨fun z => h (mem_dedup.mp z), nodup_dedup ys⟩
/-- two texts' lists without repeats, sorted, of the same members -/
theorem sset_eq {ys xs : List Str} (h1 : PyProof.Rows.sortedS ys = true) (h2 : ys.Nodup) (h3 : ∀ k, k ∈ ys ↔ k ∈ xs) : ys = sortS (dedup xs) := by
  refine sortedS_eq ?_ h1
  exact (List.perm_ext_iff_of_nodup h2 (nodup_dedup xs)).mpr fun k => (h3 k).trans mem_dedup.symm
def oSSet : List D → Option D
  | [.lst ds] => if ds.length < 64 then (strsD ds).map fun ss => .lst ((sortS (dedup ss)).map .str) else none
  | [.tup ds] => if ds.length < 64 then (strsD ds).map fun ss => .lst ((sortS (dedup ss)).map .str) else none
  | _ => none
theorem pd_sset {X : Cx} {ct : Nat → Addr} {E : St → XK} {e : Expr} {g : DA} {p p2 pos pos2 : Pos} (hc : X.calm = true) (hg : Gl X "sorted") (hm : X.mg "sorted" = none) (hg2 : Gl X "set") (hm2 : X.mg "set" = none) (he : PDA X ct E [e] g)
    (hs : starEach [.Call (.Name "set" p2) [e] [] pos2] X.env = (false, eval (.Call (.Name "set" p2) [e] [] pos2) X.env) :: starEach [] X.env := by rfl) (hs2 : starEach [e] X.env = (false, eval e X.env) :: starEach [] X.env := by rfl)
    (hpl : (backTo pos (starEach [] X.env)).any (·.1) = false := by rfl) (hpl2 : (backTo pos2 (starEach [] X.env)).any (·.1) = false := by rfl) :
    PD X ct E (.Call (.Name "sorted" p) [.Call (.Name "set" p2) [e] [] pos2] [] pos) (dCall oSSet g) := by
  refine PE.imp (pe_callB (call_sortedO hc) hg hm PyProof.Rows.boot_sorted (pa_cons (pe_callTy (call_setS hc) hg2 hm2 PyProof.Rows.boot_set he (by decide) (by decide) hs2 hpl2) pa_nil hs) (by decide) (by decide) hs hpl) fun σ H Q ⟨ua, F, ρ, u, R, q⟩ => ?_
  refine tG_bind R q fun F1 vs H1 xs u1 s1 R1 r1 q1 => ?_
  refine out_opt q1 fun d hd q2 => ?_
  have go : ∀ (a : Addr) (ss : List Str), vs = [.ref a] → (SqL X.K H1 a (ss.map V.str) ∨ SqT X.K H1 a (ss.map V.str)) → ss.length < 64 → d = .lst ((sortS (dedup ss)).map .str) →
      rSet X.K X.w vs H1 fun v H2 => tNil σ H2 fun ws H3 => rSortedO X.w (v :: ws) H3 Q := fun a ss ev hs hl ed => by
    subst ev ed
    refine ⟨a, ss, rfl, hs, by omega, fun p m hm hp => ?_⟩
    refine ⟨p, ss, m, rfl, upd_same, by omega, fun ys l h1 h2 h3 hn => ?_⟩
    have ey := sset_eq h1 h2 h3
    subst ey
    have st : Stp ua F1 H1 F1 (upd H1 p (setO X.w p ss m)) := Stp.skip R1.toBs (R1.ex.trans (Ex.new hp)) fun a w _ h => by rw [upd_ne (ne_of_none h hp)]; exact h
    have hu : Urn ua u1 (upd H1 p (setO X.w p ss m)) := by
      show upd _ _ _ ua = _
      rw [upd_ne (ne_of_none R1.urn hp)]; exact R1.urn
    exact out.new (st.bs hu) (q2.mono R1.toBs st hu) hn (.lst upd_same (reps_strs _))
  match xs, hd with
  | [.lst ds], hd =>
    obtain ⟨v, rfl, rv⟩ := reps1 r1
    cases rv with | lst h1 h2 =>
    have hd : (if ds.length < 64 then (strsD ds).map fun ss => D.lst ((sortS (dedup ss)).map .str) else none) = some d := hd
    split at hd
    · rename_i hl
      cases e : strsD ds with
      | none => rw [e] at hd; cases hd
      | some ss =>
        rw [e] at hd; cases hd
        have ev := strs_rep h2 e
        have el := h2.length
        rw [ev, List.length_map] at el
        exact go _ ss rfl (.inl (sq_of (R1.ex _ _ (by rw [← ev]; exact h1)))) (by omega) rfl
    · cases hd
  | [.tup ds], hd =>
    obtain ⟨v, rfl, rv⟩ := reps1 r1
    cases rv with | tup h1 h2 =>
    have hd : (if ds.length < 64 then (strsD ds).map fun ss => D.lst ((sortS (dedup ss)).map .str) else none) = some d := hd
    split at hd
    · rename_i hl
      cases e : strsD ds with
      | none => rw [e] at hd; cases hd
      | some ss =>
        rw [e] at hd; cases hd
        have ev := strs_rep h2 e
        have el := h2.length
        rw [ev, List.length_map] at el
        exact go _ ss rfl (.inr (by rw [← ev]; exact ex_t R1.ex h1)) (by omega) rfl
    · cases hd
end Dl
set_option Elab.async false
set_option linter.all false
set_option maxRecDepth 100000
set_option maxHeartbeats 4000000
namespace Pr
open PySem L2 Evl Dl
def top (i : Nat) : Stmt := PySem.Challenge.pw_keyspans_k01_keys_and_what_they_tell.main.body.getD i (.Pass ⟨0, 0, 0, 0⟩)
abbrev s_reached : Stmt := top 15
theorem sc_reached : FnScope ["direct", "name", "found", "at", "other"] ["direct", "name"] (defScope s_reached) := ⟨rfl, rfl, rfl, by decide +kernel, rfl, by decide +kernel, by decide +kernel⟩
abbrev s_check_name : Stmt := top 16
theorem sc_check_name : FnScope ["names", "name"] ["names", "name"] (defScope s_check_name) := ⟨rfl, rfl, rfl, by decide +kernel, rfl, by decide +kernel, by decide +kernel⟩
abbrev s_Keys_D_initD_ : Stmt := inClass (top 17) 0
theorem sc_Keys_D_initD_ : FnScope ["self", "names", "tells", "pair", "name", "direct", "ringed", "one", "other"] ["self", "names", "tells"] (defScope s_Keys_D_initD_) := ⟨rfl, rfl, rfl, by decide +kernel, rfl, by decide +kernel, by decide +kernel⟩
abbrev s_Keys_names : Stmt := inClass (top 17) 1
theorem sc_Keys_names : FnScope ["self"] ["self"] (defScope s_Keys_names) := ⟨rfl, rfl, rfl, by decide +kernel, rfl, by decide +kernel, by decide +kernel⟩
abbrev s_Keys_pairs : Stmt := inClass (top 17) 2
theorem sc_Keys_pairs : FnScope ["self", "one", "other"] ["self"] (defScope s_Keys_pairs) := ⟨rfl, rfl, rfl, by decide +kernel, rfl, by decide +kernel, by decide +kernel⟩
abbrev s_Keys_told : Stmt := inClass (top 17) 4
theorem sc_Keys_told : FnScope ["self", "name"] ["self", "name"] (defScope s_Keys_told) := ⟨rfl, rfl, rfl, by decide +kernel, rfl, by decide +kernel, by decide +kernel⟩
abbrev s_Keys_tells : Stmt := inClass (top 17) 5
theorem sc_Keys_tells : FnScope ["self", "one", "other"] ["self", "one", "other"] (defScope s_Keys_tells) := ⟨rfl, rfl, rfl, by decide +kernel, rfl, by decide +kernel, by decide +kernel⟩
abbrev s_Keys_D_containsD_ : Stmt := inClass (top 17) 6
theorem sc_Keys_D_containsD_ : FnScope ["self", "name"] ["self", "name"] (defScope s_Keys_D_containsD_) := ⟨rfl, rfl, rfl, by decide +kernel, rfl, by decide +kernel, by decide +kernel⟩
abbrev s_Keys_D_lenD_ : Stmt := inClass (top 17) 7
theorem sc_Keys_D_lenD_ : FnScope ["self"] ["self"] (defScope s_Keys_D_lenD_) := ⟨rfl, rfl, rfl, by decide +kernel, rfl, by decide +kernel, by decide +kernel⟩
abbrev s_Keys_D_eqD_ : Stmt := inClass (top 17) 8
theorem sc_Keys_D_eqD_ : FnScope ["self", "other"] ["self", "other"] (defScope s_Keys_D_eqD_) := ⟨rfl, rfl, rfl, by decide +kernel, rfl, by decide +kernel, by decide +kernel⟩
abbrev s__law_box : Stmt := top 19
theorem sc__law_box : FnScope ["_law_script", "_law_k", "_law_cell"] ["_law_script", "_law_k"] (defScope s__law_box) := ⟨rfl, rfl, rfl, by decide +kernel, rfl, by decide +kernel, by decide +kernel⟩
abbrev s__law_take : Stmt := top 20
theorem sc__law_take : FnScope ["_law_urn", "_law_low_so", "_law_drawn", "_law_once", "_law_far", "_law_both_so"] ["_law_urn", "_law_low_so"] (defScope s__law_take) := ⟨rfl, rfl, rfl, by decide +kernel, rfl, by decide +kernel, by decide +kernel⟩
abbrev s__law_cells : Stmt := top 21
theorem sc__law_cells : FnScope ["_law_script", "_law_top", "_law_cells_here", "_law_k", "_law_cell", "_law_at_so"] ["_law_script", "_law_top"] (defScope s__law_cells) := ⟨rfl, rfl, rfl, by decide +kernel, rfl, by decide +kernel, by decide +kernel⟩
abbrev s__law_lists : Stmt := top 23
theorem sc__law_lists : FnScope ["_law_matter", "_law_bit"] ["_law_matter"] (defScope s__law_lists) := ⟨rfl, rfl, rfl, by decide +kernel, rfl, by decide +kernel, by decide +kernel⟩
abbrev s__law_same : Stmt := top 24
theorem sc__law_same : FnScope ["_law_got", "_law_goal", "_law_mine_so", "_law_own"] ["_law_got", "_law_goal"] (defScope s__law_same) := ⟨rfl, rfl, rfl, by decide +kernel, rfl, by decide +kernel, by decide +kernel⟩
abbrev s__law_few : Stmt := top 25
theorem sc__law_few : FnScope ["_law_urn", "_law_pool", "_law_one_of", "_law_own"] ["_law_urn", "_law_pool", "_law_one_of"] (defScope s__law_few) := ⟨rfl, rfl, rfl, by decide +kernel, rfl, by decide +kernel, by decide +kernel⟩
abbrev s__law_mixed : Stmt := top 26
theorem sc__law_mixed : FnScope ["_law_urn", "_law_pool", "_law_left", "_law_found", "_law_turn"] ["_law_urn", "_law_pool"] (defScope s__law_mixed) := ⟨rfl, rfl, rfl, by decide +kernel, rfl, by decide +kernel, by decide +kernel⟩
abbrev s__law_book : Stmt := top 27
theorem sc__law_book : FnScope ["_law_urn", "_law_most_so", "_law_pool", "_law_flats", "_law_pairs_so", "_law_style", "_law_k", "_law_own", "_law_far"] ["_law_urn", "_law_most_so"] (defScope s__law_book) := ⟨rfl, rfl, rfl, by decide +kernel, rfl, by decide +kernel, by decide +kernel⟩
abbrev s__law_told : Stmt := top 28
theorem sc__law_told : FnScope ["_law_book_here", "_law_flats", "_law_pairs_so", "_law_table", "_law_turn", "_law_own", "_law_far", "_law_pair", "_law_bit"] ["_law_book_here"] (defScope s__law_told) := ⟨rfl, rfl, rfl, by decide +kernel, rfl, by decide +kernel, by decide +kernel⟩
abbrev s__law_heard : Stmt := top 29
theorem sc__law_heard : FnScope ["_law_way", "_law_keyring", "_law_own", "_law_far", "_law_caught", "_law_found", "error"] ["_law_way", "_law_keyring", "_law_own", "_law_far"] (defScope s__law_heard) := ⟨rfl, rfl, rfl, by decide +kernel, rfl, by decide +kernel, by decide +kernel⟩
abbrev s__law_by_hand_right : Stmt := top 30
theorem sc__law_by_hand_right : FnScope ["_law_keyring", "_law_got", "_law_goal", "_law_bare"] [] (defScope s__law_by_hand_right) := ⟨rfl, rfl, rfl, by decide +kernel, rfl, by decide +kernel, by decide +kernel⟩
abbrev s__law_right : Stmt := top 31
theorem sc__law_right : FnScope ["_law_urn", "_law_turn", "_law_book_here", "_law_flats", "_law_told_so", "_law_pool", "_law_goal", "_law_keyring", "_law_own", "_law_got", "_law_soft", "_law_far_so", "_law_kin", "_law_plain_so", "_law_wide", "_law_far"] ["_law_urn"] (defScope s__law_right) := ⟨rfl, rfl, rfl, by decide +kernel, rfl, by decide +kernel, by decide +kernel⟩
abbrev s_law : Stmt := top 32
theorem sc_law : FnScope ["_law_script", "_law_cells_here", "_law_k"] ["_law_script"] (defScope s_law) := ⟨rfl, rfl, rfl, by decide +kernel, rfl, by decide +kernel, by decide +kernel⟩
/-- where things stand -/
structure Ad where
  f_reached : Addr
  d_reached : FuncData
  f_check_name : Addr
  d_check_name : FuncData
  f_Keys_D_initD_ : Addr
  d_Keys_D_initD_ : FuncData
  f_Keys_names : Addr
  d_Keys_names : FuncData
  p_Keys_names : Addr
  f_Keys_pairs : Addr
  d_Keys_pairs : FuncData
  p_Keys_pairs : Addr
  f_Keys_told : Addr
  d_Keys_told : FuncData
  f_Keys_tells : Addr
  d_Keys_tells : FuncData
  f_Keys_D_containsD_ : Addr
  d_Keys_D_containsD_ : FuncData
  f_Keys_D_lenD_ : Addr
  d_Keys_D_lenD_ : FuncData
  f_Keys_D_eqD_ : Addr
  d_Keys_D_eqD_ : FuncData
  f__law_box : Addr
  d__law_box : FuncData
  f__law_take : Addr
  d__law_take : FuncData
  f__law_cells : Addr
  d__law_cells : FuncData
  f__law_lists : Addr
  d__law_lists : FuncData
  f__law_same : Addr
  d__law_same : FuncData
  f__law_few : Addr
  d__law_few : FuncData
  f__law_mixed : Addr
  d__law_mixed : FuncData
  f__law_book : Addr
  d__law_book : FuncData
  f__law_told : Addr
  d__law_told : FuncData
  f__law_heard : Addr
  d__law_heard : FuncData
  f__law_by_hand_right : Addr
  d__law_by_hand_right : FuncData
  f__law_right : Addr
  d__law_right : FuncData
  f_law : Addr
  d_law : FuncData
  C_NoName : Addr
  C_NoPlace : Addr
  C_BadField : Addr
  C_BadLine : Addr
  C_Ringed : Addr
  C_Keys : Addr
  i_NoName : Addr
  cc_NoName : Addr
  cda_NoName : Addr
  i_Ringed : Addr
  cc_Ringed : Addr
  cda_Ringed : Addr
  e0_Keys_D_initD_ : Addr
def Ad.ct (A : Ad) : Nat → Addr
  | 0 => A.C_NoName
  | 1 => A.C_BadField
  | 2 => A.C_BadLine
  | 3 => A.C_Ringed
  | 4 => A.C_Keys
  | 5 => A.C_NoPlace
  | _ => A.C_NoName
def tb_Keys : Ty → Option Bool
  | .non => some false
  | .bl => some false
  | .int => some false
  | .str => some false
  | .lst => some false
  | .tup => some false
  | .dct => some false
  | .obj 4 => some true
  | .exc 0 => some false
  | .exc 5 => some false
  | .exc 1 => some false
  | .exc 2 => some false
  | .exc 3 => some false
  | _ => none
def tb_list_tuple : Ty → Option Bool
  | .non => some false
  | .bl => some false
  | .int => some false
  | .str => some false
  | .lst => some true
  | .tup => some true
  | .dct => some false
  | .obj 4 => some false
  | .exc 0 => some false
  | .exc 5 => some false
  | .exc 1 => some false
  | .exc 2 => some false
  | .exc 3 => some false
  | _ => none
def tb_list : Ty → Option Bool
  | .non => some false
  | .bl => some false
  | .int => some false
  | .str => some false
  | .lst => some true
  | .tup => some false
  | .dct => some false
  | .obj 4 => some false
  | .exc 0 => some false
  | .exc 5 => some false
  | .exc 1 => some false
  | .exc 2 => some false
  | .exc 3 => some false
  | _ => none
def tb_tuple : Ty → Option Bool
  | .non => some false
  | .bl => some false
  | .int => some false
  | .str => some false
  | .lst => some false
  | .tup => some true
  | .dct => some false
  | .obj 4 => some false
  | .exc 0 => some false
  | .exc 5 => some false
  | .exc 1 => some false
  | .exc 2 => some false
  | .exc 3 => some false
  | _ => none
def tb_bool_str : Ty → Option Bool
  | .non => some false
  | .bl => some true
  | .int => some false
  | .str => some true
  | .lst => some false
  | .tup => some false
  | .dct => some false
  | .obj 4 => some false
  | .exc 0 => some false
  | .exc 5 => some false
  | .exc 1 => some false
  | .exc 2 => some false
  | .exc 3 => some false
  | _ => none
def tb_bool : Ty → Option Bool
  | .non => some false
  | .bl => some true
  | .int => some false
  | .str => some false
  | .lst => some false
  | .tup => some false
  | .dct => some false
  | .obj 4 => some false
  | .exc 0 => some false
  | .exc 5 => some false
  | .exc 1 => some false
  | .exc 2 => some false
  | .exc 3 => some false
  | _ => none
def tb_int : Ty → Option Bool
  | .non => some false
  | .bl => some true
  | .int => some true
  | .str => some false
  | .lst => some false
  | .tup => some false
  | .dct => some false
  | .obj 4 => some false
  | .exc 0 => some false
  | .exc 5 => some false
  | .exc 1 => some false
  | .exc 2 => some false
  | .exc 3 => some false
  | _ => none
def tb_NoName : Ty → Option Bool
  | .non => some false
  | .bl => some false
  | .int => some false
  | .str => some false
  | .lst => some false
  | .tup => some false
  | .dct => some false
  | .obj 4 => some false
  | .exc 0 => some true
  | .exc 5 => some false
  | .exc 1 => some false
  | .exc 2 => some false
  | .exc 3 => some false
  | _ => none
def tb_LookupError : Ty → Option Bool
  | .non => some false
  | .bl => some false
  | .int => some false
  | .str => some false
  | .lst => some false
  | .tup => some false
  | .dct => some false
  | .obj 4 => some false
  | .exc 0 => some true
  | .exc 5 => some true
  | .exc 1 => some false
  | .exc 2 => some false
  | .exc 3 => some false
  | _ => none
def tst_BadField_NoName_NoPlace_Ringed : Nat → Option Bool
  | 0 => some true
  | 5 => some true
  | 1 => some true
  | 2 => some false
  | 3 => some true
  | _ => none
def tbo_Keys : Ty → Bool
  | .obj 4 => true
  | .non => true
  | .bl => true
  | .int => true
  | .str => true
  | .lst => true
  | .tup => true
  | .dct => true
  | _ => false
theorem xt_NoName : DlX.ExT "NoName.__init__" "name" "name" (inClass (top 1) 0) where
  body := ⟨_, _, _, _, _, _, _, _, _, _, rfl, fun _ _ _ _ _ _ _ _ _ _ => ⟨_, rfl⟩, fun _ => rfl, fun _ => rfl⟩
  head := ⟨_, rfl, rfl⟩
  kind := rfl
  co := rfl
  gen := rfl
  nocell := by decide +kernel
  lself := by decide +kernel
  lpar := by decide +kernel
  lcls := by decide +kernel
  lsup := by decide +kernel
  ne := by decide +kernel
  dbg := by decide +kernel
theorem xt_Ringed : DlX.ExT "Ringed.__init__" "ring" "ring" (inClass (top 5) 0) where
  body := ⟨_, _, _, _, _, _, _, _, _, _, rfl, fun _ _ _ _ _ _ _ _ _ _ => ⟨_, rfl⟩, fun _ => rfl, fun _ => rfl⟩
  head := ⟨_, rfl, rfl⟩
  kind := rfl
  co := rfl
  gen := rfl
  nocell := by decide +kernel
  lself := by decide +kernel
  lpar := by decide +kernel
  lcls := by decide +kernel
  lsup := by decide +kernel
  ne := by decide +kernel
  dbg := by decide +kernel
/-! mirrors -/
def b_reached : DS := (sSeq (sSetN 2 (dCall oList (dCons (dOp oIx (dVar 0) (dVar 1)) dNil)))
  (sSeq (sSet 3 (dC (.int 0)))
  (sSeq (sWh 100 (dTst (dOp oLt (dVar 3) (dCall oLen (dCons (dVar 2) dNil)))) (sSeq (sOm 2 oExt (dCons (lendN (dLc (dItems (dOp oIx (dVar 0) (dOp oIx (dVar 2) (dVar 3)))) (.nm 4) (dTst (dOp oNotInD (dVar 4) (dVar 2))) (dVar 4) [4])) dNil))
  (sAug 3 (fun x y => match x, y with | .int i, .int j => some (.int (i + j)) | _, _ => none) (dC (.int 1)))))
  (sRet (dCall oTuple (dCons (dCall oSSet (dCons (dVar 2) dNil)) dNil))))))
def m_reached : DF := runB 5 b_reached
def b_check_name : DS := (sIf (dAndB (dTst (dOp oNe (dVar 1) (dC (.str "#")))) (dTst (dOp oNotInD (dVar 1) (dVar 0)))) (sRaise 0 "name" (dVar 1)) sNx)
def m_check_name : DF := runB 2 b_check_name
def b_Keys_D_initD_ : DS := (sSeq (sFor (dItems (dVar 2)) (.nm 3) (sFor (dItems (dVar 3)) (.nm 4) (sIf (dTst (dOp oNotInD (dVar 4) (dVar 1))) (sRaise 0 "name" (dVar 4)) sNx)))
  (sSeq (sFldO "own_names" [4] 0 (dCall oTuple (dCons (dCall oSSet (dCons (dVar 1) dNil)) dNil)))
  (sSeq (sSet 5 (dDc (dItems (dFldO "own_names" [4] 0)) (.nm 4) dYes (dVar 4) (dLc (dItems (dVar 2)) (.tp [7, 8]) (dTst (dOp oEq (dVar 7) (dVar 4))) (dVar 8) [7, 8]) [4]))
  (sSeq (sFldO "own_told" [4] 0 (dDc (dItems (dFldO "own_names" [4] 0)) (.nm 4) dYes (dVar 4) (dCallF m_reached [] (dCons (dVar 5) (dCons (dVar 4) dNil))) [4]))
  (sSeq (sSet 6 (dLc (dItems (dFldO "own_names" [4] 0)) (.nm 4) (dTst (dOp oInD (dVar 4) (dOp oIx (dFldO "own_told" [4] 0) (dVar 4)))) (dVar 4) [4]))
  (sIf (dTst (dOp oGt (dCall oLen (dCons (dVar 6) dNil)) (dC (.int 0)))) (sRaise 3 "ring" (dCall oTuple (dCons (dVar 6) dNil))) sNx))))))
def i_Keys_D_initD_ : DFI := runI 4 9 b_Keys_D_initD_
def b_Keys_names : DS := (sRet (dFld "own_names" [4] (dVar 0)))
def m_Keys_names : DF := runB 1 b_Keys_names
def b_Keys_pairs : DS := (sRet (dCall oTuple (dCons (dLc2 (dItems (dFld "own_names" [4] (dVar 0))) (.nm 1) dYes (dItems (dOp oIx (dFld "own_told" [4] (dVar 0)) (dVar 1))) (.nm 2) dYes (dTup (dCons (dVar 1) (dCons (dVar 2) dNil))) [1, 2] [2]) dNil)))
def m_Keys_pairs : DF := runB 3 b_Keys_pairs
def b_Keys_told : DS := (sSeq (sDrop (dCallF m_check_name [] (dCons (dFld "own_names" [4] (dVar 0)) (dCons (dVar 1) dNil))))
  (sRet (dIf (dTst (dOp oEq (dVar 1) (dC (.str "#")))) (dFld "own_names" [4] (dVar 0)) (dOp oIx (dFld "own_told" [4] (dVar 0)) (dVar 1)))))
def m_Keys_told : DF := runB 2 b_Keys_told
def b_Keys_tells : DS := (sSeq (sDrop (dCallF m_check_name [] (dCons (dFld "own_names" [4] (dVar 0)) (dCons (dVar 1) dNil))))
  (sSeq (sDrop (dCallF m_check_name [] (dCons (dFld "own_names" [4] (dVar 0)) (dCons (dVar 2) dNil))))
  (sRet (dIf (dTst (dOp oEq (dVar 1) (dC (.str "#")))) (dOp oNe (dVar 2) (dC (.str "#"))) (dOp oInD (dVar 2) (dOp oIx (dFld "own_told" [4] (dVar 0)) (dVar 1)))))))
def m_Keys_tells : DF := runB 3 b_Keys_tells
def b_Keys_D_containsD_ : DS := (sRet (dOp oInD (dVar 1) (dFld "own_names" [4] (dVar 0))))
def m_Keys_D_containsD_ : DF := runB 2 b_Keys_D_containsD_
def b_Keys_D_lenD_ : DS := (sRet (dCall oLen (dCons (dFld "own_names" [4] (dVar 0)) dNil)))
def m_Keys_D_lenD_ : DF := runB 1 b_Keys_D_lenD_
def b_Keys_D_eqD_ : DS := (sRet (dAndV (dIsi tb_Keys (dVar 1)) (dAndV (dOp oEq (dFld "own_names" [4] (dVar 0)) (dFld "own_names" [4] (dVar 1))) (dOp oEqA (dFld "own_told" [4] (dVar 0)) (dFld "own_told" [4] (dVar 1))))))
def m_Keys_D_eqD_ : DF := runB 2 b_Keys_D_eqD_
def b__law_take : DS := (sSeq (sIf (dTst (dOp oGt (dUrn 0 0) (dC (.int 0)))) (sSeq (sSet 2 (dOp oMod (dCall oInt (dCons (dUrn 0 0) dNil)) (dVar 1)))
  (sSeq (sUrn 0 0 (dOp oDiv (dUrn 0 0) (dVar 1)))
  (sRet (dVar 2)))) sNx)
  (sSeq (sUrn 0 2 (dOp oAdd (dUrn 0 2) (dC (.int 1))))
  (sSeq (sSet 3 (dOp oMod (dCall oInt (dCons (dOp oMulX (dOp oAdd (dUrn 0 1) (dOp oMulX (dC (.int 48271)) (dUrn 0 2))) (dOp oAdd (dC (.int 39373)) (dUrn 0 2))) dNil)) (dC (.int 2147483647))))
  (sSeq (sSet 4 (dOp oAdd (dOp oMod (dCall oInt (dCons (dVar 3) dNil)) (dC (.int 40009))) (dC (.int 7))))
  (sSeq (sSet 5 (dOp oMod (dCall oInt (dCons (dOp oMulX (dOp oAdd (dOp oAdd (dVar 3) (dUrn 0 2)) (dOp oDiv (dUrn 0 1) (dC (.int 1000003)))) (dVar 4)) dNil)) (dC (.int 2147483629))))
  (sRet (dOp oMod (dCall oInt (dCons (dOp oDiv (dOp oMod (dCall oInt (dCons (dOp oAdd (dOp oMulX (dVar 5) (dC (.int 48271))) (dVar 3)) dNil)) (dC (.int 2147483587))) (dC (.int 64))) dNil)) (dVar 1))))))))
def m__law_take : DF := runB 6 b__law_take
def b__law_lists (m : DF) : DS := (sRet (dIf (dTru (dIsi tb_list_tuple (dVar 0))) (dLc (dItems (dVar 0)) (.nm 1) dYes (dCallF m [] (dCons (dVar 1) dNil)) [1]) (dVar 0)))
def r__law_lists : Nat → DF
  | 0 => fun _ => stuck
  | n + 1 => runB 2 (b__law_lists (r__law_lists n))
def m__law_lists : DF := r__law_lists 6
def n__law_lists : DF := runN 2 (dIfT (dTru (dIsi tb_list_tuple (dVar 0))) (dLc (dItems (dVar 0)) (.nm 1) dYes (dCallF m__law_lists [] (dCons (dVar 1) dNil)) [1]))
def b__law_same (m : DF) : DS := (sSeq (sIf (dTru (dIsi tb_list_tuple (dVar 1))) (sSeq (sIf (dOrB (dTst (dOp oNe (dIsi tb_list (dVar 0)) (dIsi tb_list (dVar 1)))) (dTst (dOp oNe (dIsi tb_tuple (dVar 0)) (dIsi tb_tuple (dVar 1))))) (sRet (dC (.bl false))) sNx)
  (sRet (dAndV (dOp oEq (dCall oLen (dCons (dVar 0) dNil)) (dCall oLen (dCons (dVar 1) dNil))) (dCall oAll (dCons (dLc (dZipA (dCons (dVar 0) (dCons (dVar 1) dNil))) (.tp [2, 3]) dYes (dCallF m [] (dCons (dVar 2) (dCons (dVar 3) dNil))) [2, 3]) dNil))))) sNx)
  (sSeq (sIf (dOrB (dTst (dOp oIs (dVar 1) (dC .non))) (dTru (dIsi tb_bool_str (dVar 1)))) (sRet (dAndV (dOp oEq (dVar 0) (dVar 1)) (dAndV (dOp oEq (dIsi tb_bool (dVar 0)) (dIsi tb_bool (dVar 1))) (dOp oEq (dOp oIs (dVar 0) (dC .non)) (dOp oIs (dVar 1) (dC .non)))))) sNx)
  (sRet (dAndV (dIsi tb_int (dVar 0)) (dAndV (dNotV (dIsi tb_bool (dVar 0))) (dOp oEq (dVar 0) (dVar 1)))))))
def r__law_same : Nat → DF
  | 0 => fun _ => stuck
  | n + 1 => runB 4 (b__law_same (r__law_same n))
def m__law_same : DF := r__law_same 6
def b__law_few : DS := (sRet (dCall oTuple (dCons (dLc (dItems (dVar 1)) (.nm 3) (dTst (dOp oEq (dCallF m__law_take [] (dCons (dVar 0) (dCons (dVar 2) dNil))) (dC (.int 0)))) (dVar 3) [3]) dNil)))
def m__law_few : DF := runB 4 b__law_few
def b__law_mixed : DS := (sSeq (sSetM [2, 3] (mOwn (dCall oList (dCons (dVar 1) dNil)) (mOwn (dLst dNil) mNil)))
  (sSeq (sFor (dRng1 (dCons (dCall oLen (dCons (dVar 1) dNil)) dNil)) (.nm 4) (sAppPop 3 2 (lend (dCallF m__law_take [] (dCons (dVar 0) (dCons (dCall oLen (dCons (dVar 2) dNil)) dNil))))))
  (sRet (dCall oTuple (dCons (dVar 3) dNil)))))
def m__law_mixed : DF := runB 5 b__law_mixed
def b__law_book : DS := (sSeq (sSet 2 (dCall oList (dCons (dCallF m__law_mixed [] (dCons (dVar 0) (dCons (dLst (dCons (dC (.str "a")) (dCons (dC (.str "city")) (dCons (dC (.str "item")) (dCons (dC (.str "lot")) (dCons (dC (.str "shop")) (dCons (dC (.str "user")) (dCons (dC (.str "zzzzzzzz")) dNil)))))))) dNil))) dNil)))
  (sSeq (sSetM [3, 4, 5] (mVal (dCall oSorted (dCons (dLc (dItems (dSl (dVar 2) dNoPart (dPart (dOp oAdd (dC (.int 1)) (dCallF m__law_take [] (dCons (dVar 0) (dCons (dVar 1) dNil))))))) (.nm 7) dYes (dCall oStr (dCons (dVar 7) dNil)) [7]) dNil)) (mOwn (dLst dNil) (mVal (dCallF m__law_take [] (dCons (dVar 0) (dCons (dC (.int 3)) dNil))) mNil))))
  (sSeq (sFor (dEnum (dCons (dVar 3) dNil)) (.tp [6, 7]) (sFor (dItems (dSl (dVar 3) (dPart (dOp oAdd (dVar 6) (dC (.int 1)))) dNoPart)) (.nm 8) (sIf (dAndB (dTst (dOp oGt (dVar 5) (dC (.int 0)))) (dTst (dOp oEq (dCallF m__law_take [] (dCons (dVar 0) (dCons (dC (.int 4)) dNil))) (dC (.int 0))))) (sOm 4 oApp (dCons (dIf (dTst (dOp oEq (dVar 5) (dC (.int 1)))) (dTup (dCons (dVar 7) (dCons (dVar 8) dNil))) (dTup (dCons (dVar 8) (dCons (dVar 7) dNil)))) dNil)) sNx)))
  (sRet (dTup (dCons (dCall oTuple (dCons (dVar 3) dNil)) (dCons (dCall oTuple (dCons (dVar 4) dNil)) dNil)))))))
def m__law_book : DF := runB 9 b__law_book
def b__law_told : DS := (sSeq (sSetT (.tp [1, 2]) (dVar 0))
  (sSeq (sSetN 3 (dCall oDctP (dCons (dLc (dItems (dVar 1)) (.nm 5) dYes (dTup (dCons (dVar 5) (dCons (dLc (dItems (dVar 2)) (.nm 7) (dTst (dOp oEq (dOp oIx (dVar 7) (dC (.int 0))) (dVar 5))) (dOp oIx (dVar 7) (dC (.int 1))) [7]) dNil))) [5]) dNil)))
  (sSeq (sFor (dRng1 (dCons (dCall oLen (dCons (dVar 1) dNil)) dNil)) (.nm 4) (sFor (dItems (dVar 1)) (.nm 5) (sFor (dItems (lendG (dCall oList (dCons (dOp oIx (dVar 3) (dVar 5)) dNil)))) (.nm 6) (sPut 3 (dVar 5) (lendG (dOp oAdd (dOp oIx (dVar 3) (dVar 5)) (dLc (dItems (dOp oIx (dVar 3) (dVar 6))) (.nm 8) (dTst (dOp oNotInD (dVar 8) (dOp oIx (dVar 3) (dVar 5)))) (dVar 8) [8])))))))
  (sSeq (sSetN 3 (lendNG (dCall oDctP (dCons (dLc (dItems (dVar 1)) (.nm 5) dYes (dTup (dCons (dVar 5) (dCons (dLc (dItems (dVar 1)) (.nm 6) (dTst (dOp oInD (dVar 6) (dOp oIx (dVar 3) (dVar 5)))) (dVar 6) [6]) dNil))) [5]) dNil))))
  (sSeq (sPut 3 (dC (.str "#")) (dCall oList (dCons (dVar 1) dNil)))
  (sFrzI [3] (sRet (dVar 3))))))))
def m__law_told : DF := runB 9 b__law_told
def b__law_heard : DS := (sSeq (sSetT (.tp [4, 5]) (dTup (dCons (dC .non) (dCons (dC .non) dNil))))
  (sSeq (sTry tst_BadField_NoName_NoPlace_Ringed 6 4 (sIf (dTst (dOp oEq (dVar 0) (dC (.int 0)))) (sSet 5 (dLenOwn 4 m_Keys_D_lenD_ (dMake 4 i_Keys_D_initD_ [] (dCons (dVar 2) (dCons (dVar 3) dNil))))) (sSet 5 (dIf (dTst (dOp oEq (dVar 0) (dC (.int 1)))) (dMeth 4 "tells" m_Keys_tells [] (dVar 1) (dCons (dVar 2) (dCons (dVar 3) dNil))) (dMeth 4 "told" m_Keys_told [] (dVar 1) (dCons (dVar 2) dNil))))))
  (sSeq (sIf (dTst (dOp oIs (dVar 4) (dC .non))) (sRet (dVar 5)) sNx)
  (sRet (dIf (dAndB (dTru (dIsi tb_NoName (dVar 4))) (dTru (dIsi tb_LookupError (dVar 4)))) (dTup (dCons (dXf "name" [0] (dVar 4)) dNil)) (dC (.str "other")))))))
def m__law_heard : DF := runB 7 b__law_heard
def b__law_by_hand_right : DS := (sSeq (sSet 0 (dMake 4 i_Keys_D_initD_ [] (dCons (dTup (dCons (dC (.str "user")) (dCons (dC (.str "city")) (dCons (dC (.str "shop")) (dCons (dC (.str "user")) dNil))))) (dCons (dTup (dCons (dTup (dCons (dC (.str "user")) (dCons (dC (.str "shop")) dNil))) (dCons (dTup (dCons (dC (.str "shop")) (dCons (dC (.str "city")) dNil))) dNil))) dNil))))
  (sSeq (sSet 1 (dLst (dCons (dProp 4 m_Keys_names (dVar 0)) (dCons (dProp 4 m_Keys_pairs (dVar 0)) (dCons (dLenOwn 4 m_Keys_D_lenD_ (dVar 0)) (dCons (dInOwn false 4 m_Keys_D_containsD_ (dC (.str "#")) (dVar 0)) (dCons (dInOwn false 4 m_Keys_D_containsD_ (dC (.str "city")) (dVar 0)) (dCons (dInOwn false 4 m_Keys_D_containsD_ (dC (.str "b")) (dVar 0)) dNil))))))))
  (sSeq (sSet 2 (dLst (dCons (dTup (dCons (dC (.str "city")) (dCons (dC (.str "shop")) (dCons (dC (.str "user")) dNil)))) (dCons (dTup (dCons (dTup (dCons (dC (.str "shop")) (dCons (dC (.str "city")) dNil))) (dCons (dTup (dCons (dC (.str "user")) (dCons (dC (.str "city")) dNil))) (dCons (dTup (dCons (dC (.str "user")) (dCons (dC (.str "shop")) dNil))) dNil)))) (dCons (dC (.int 3)) (dCons (dC (.bl false)) (dCons (dC (.bl true)) (dCons (dC (.bl false)) dNil))))))))
  (sSeq (sSet 1 (dOp oAdd (dVar 1) (dLst (dCons (dMeth 4 "told" m_Keys_told [] (dVar 0) (dCons (dC (.str "user")) dNil)) (dCons (dMeth 4 "told" m_Keys_told [] (dVar 0) (dCons (dC (.str "#")) dNil)) (dCons (dMeth 4 "tells" m_Keys_tells [] (dVar 0) (dCons (dC (.str "#")) (dCons (dC (.str "#")) dNil))) (dCons (dMeth 4 "tells" m_Keys_tells [] (dVar 0) (dCons (dC (.str "city")) (dCons (dC (.str "#")) dNil))) dNil)))))))
  (sSeq (sSet 2 (dOp oAdd (dVar 2) (dLst (dCons (dTup (dCons (dC (.str "city")) (dCons (dC (.str "shop")) dNil))) (dCons (dTup (dCons (dC (.str "city")) (dCons (dC (.str "shop")) (dCons (dC (.str "user")) dNil)))) (dCons (dC (.bl false)) (dCons (dC (.bl false)) dNil)))))))
  (sSeq (sSet 1 (dOp oAdd (dVar 1) (dLst (dCons (dCallF m__law_heard [] (dCons (dC (.int 0)) (dCons (dC .non) (dCons (dTup (dCons (dC (.str "a")) (dCons (dC (.str "b")) dNil))) (dCons (dTup (dCons (dTup (dCons (dC (.str "a")) (dCons (dC (.str "b")) dNil))) (dCons (dTup (dCons (dC (.str "b")) (dCons (dC (.str "c")) dNil))) (dCons (dTup (dCons (dC (.str "d")) (dCons (dC (.str "a")) dNil))) dNil)))) dNil))))) dNil))))
  (sSeq (sSet 1 (dOp oAdd (dVar 1) (dLst (dCons (dCallF m__law_heard [] (dCons (dC (.int 0)) (dCons (dC .non) (dCons (dTup (dCons (dC (.str "a")) (dCons (dC (.str "b")) dNil))) (dCons (dTup (dCons (dTup (dCons (dC (.str "x")) (dCons (dC (.str "y")) dNil))) dNil)) dNil))))) (dCons (dCallF m__law_heard [] (dCons (dC (.int 0)) (dCons (dC .non) (dCons (dTup (dCons (dC (.str "a")) dNil)) (dCons (dTup (dCons (dTup (dCons (dC (.str "a")) (dCons (dC (.str "a")) dNil))) (dCons (dTup (dCons (dC (.str "a")) (dCons (dC (.str "z")) dNil))) dNil))) dNil))))) dNil)))))
  (sSeq (sSet 1 (dOp oAdd (dVar 1) (dLst (dCons (dCallF m__law_heard [] (dCons (dC (.int 1)) (dCons (dVar 0) (dCons (dC (.str "x")) (dCons (dC (.str "y")) dNil))))) (dCons (dCallF m__law_heard [] (dCons (dC (.int 1)) (dCons (dVar 0) (dCons (dC (.str "city")) (dCons (dC (.str "y")) dNil))))) (dCons (dCallF m__law_heard [] (dCons (dC (.int 2)) (dCons (dVar 0) (dCons (dC (.str "y")) (dCons (dC (.str "")) dNil))))) dNil))))))
  (sSeq (sSet 2 (dOp oAdd (dVar 2) (dLst (dCons (dTup (dCons (dC (.str "c")) dNil)) (dCons (dTup (dCons (dC (.str "x")) dNil)) (dCons (dTup (dCons (dC (.str "z")) dNil)) (dCons (dTup (dCons (dC (.str "x")) dNil)) (dCons (dTup (dCons (dC (.str "y")) dNil)) (dCons (dTup (dCons (dC (.str "y")) dNil)) dNil)))))))))
  (sSeq (sSet 3 (dMake 4 i_Keys_D_initD_ [.tup []] (dCons (dTup dNil) dNil)))
  (sSeq (sSet 1 (dOp oAdd (dVar 1) (dLst (dCons (dProp 4 m_Keys_names (dVar 3)) (dCons (dProp 4 m_Keys_pairs (dVar 3)) (dCons (dLenOwn 4 m_Keys_D_lenD_ (dVar 3)) (dCons (dMeth 4 "told" m_Keys_told [] (dVar 3) (dCons (dC (.str "#")) dNil)) (dCons (dOwn2 4 tbo_Keys m_Keys_D_eqD_ (dVar 3) (dMake 4 i_Keys_D_initD_ [] (dCons (dLst dNil) (dCons (dLst dNil) dNil)))) (dCons (dOwn2 4 tbo_Keys m_Keys_D_eqD_ (dVar 3) (dTup dNil)) (dCons (dOwn2 4 tbo_Keys m_Keys_D_eqD_ (dVar 0) (dVar 3)) dNil))))))))))
  (sRet (dCallF m__law_same [] (dCons (dVar 1) (dCons (dOp oAdd (dVar 2) (dLst (dCons (dTup dNil) (dCons (dTup dNil) (dCons (dC (.int 0)) (dCons (dTup dNil) (dCons (dC (.bl true)) (dCons (dC (.bl false)) (dCons (dC (.bl false)) dNil))))))))) dNil)))))))))))))))
def m__law_by_hand_right : DF := runB 4 b__law_by_hand_right
def b__law_right : DS := (sSeq (sIf (dNotB (dTru (dCallF m__law_by_hand_right [] dNil))) (sRet (dC (.bl false))) sNx)
  (sSeq (sFor (dRng1 (dCons (dC (.int 10)) dNil)) (.nm 1) (sSeq (sSet 2 (dCallF m__law_book [] (dCons (dVar 0) (dCons (dC (.int 5)) dNil))))
  (sSeq (sSetT (.tp [3, 4]) (dTup (dCons (dOp oIx (dVar 2) (dC (.int 0))) (dCons (dCallF m__law_told [] (dCons (dVar 2) dNil)) dNil))))
  (sSeq (sSetM [5, 6] (mVal (dCallF m__law_mixed [] (dCons (dVar 0) (dCons (dOp oAdd (dCall oList (dCons (dVar 3) dNil)) (dCall oList (dCons (dCallF m__law_few [] (dCons (dVar 0) (dCons (dVar 3) (dCons (dC (.int 2)) dNil)))) dNil))) dNil))) (mVal (dLst dNil) mNil)))
  (sSeq (sSet 7 (dMake 4 i_Keys_D_initD_ [] (dCons (dVar 5) (dCons (dCallF m__law_mixed [] (dCons (dVar 0) (dCons (dOp oIx (dVar 2) (dC (.int 1))) dNil))) dNil))))
  (sSeq (sFor (dItems (dVar 3)) (.nm 8) (sSet 6 (dOp oAdd (dVar 6) (dLc (dItems (dOp oIx (dVar 4) (dVar 8))) (.nm 15) dYes (dTup (dCons (dVar 8) (dCons (dVar 15) dNil))) [15]))))
  (sSeq (sSet 9 (dLst (dCons (dProp 4 m_Keys_names (dVar 7)) (dCons (dProp 4 m_Keys_pairs (dVar 7)) (dCons (dLenOwn 4 m_Keys_D_lenD_ (dVar 7)) (dCons (dLc (dItems (dVar 3)) (.nm 8) dYes (dMeth 4 "told" m_Keys_told [] (dVar 7) (dKw [0] dNil (dCons (dVar 8) dNil))) [8]) (dCons (dMeth 4 "told" m_Keys_told [] (dVar 7) (dCons (dC (.str "#")) dNil)) dNil)))))))
  (sSeq (sIf (dNotB (dTru (dCallF m__law_same [] (dCons (dVar 9) (dCons (dLst (dCons (dVar 3) (dCons (dCall oTuple (dCons (dVar 6) dNil)) (dCons (dCall oLen (dCons (dVar 3) dNil)) (dCons (dLc (dItems (dVar 3)) (.nm 8) dYes (dCall oTuple (dCons (dOp oIx (dVar 4) (dVar 8)) dNil)) [8]) (dCons (dVar 3) dNil)))))) dNil))))) (sRet (dC (.bl false))) sNx)
  (sSeq (sFor (dItems (dOp oAdd (dCall oList (dCons (dVar 3) dNil)) (dLst (dCons (dC (.str "#")) dNil)))) (.nm 8) (sSeq (sSet 9 (dLc (dItems (dOp oAdd (dCall oList (dCons (dVar 3) dNil)) (dLst (dCons (dC (.str "#")) dNil)))) (.nm 15) dYes (dMeth 4 "tells" m_Keys_tells [] (dVar 7) (dKw [0, 1] dNil (dCons (dVar 8) (dCons (dVar 15) dNil)))) [15]))
  (sIf (dNotB (dTru (dCallF m__law_same [] (dCons (dVar 9) (dCons (dOp oAdd (dLc (dItems (dVar 3)) (.nm 15) dYes (dOp oInD (dVar 15) (dOp oIx (dVar 4) (dVar 8))) [15]) (dLst (dCons (dC (.bl false)) dNil))) dNil))))) (sRet (dC (.bl false))) sNx)))
  (sSeq (sSetM [10, 11] (mOwn (dCallF n__law_lists [] (dCons (dVar 3) dNil)) (mOwn (dCallF n__law_lists [] (dCons (dOp oIx (dVar 2) (dC (.int 1))) dNil)) mNil)))
  (sSeq (sSet 12 (lendG (dMake 4 i_Keys_D_initD_ [] (dKw [0, 1] dNil (dCons (dVar 10) (dCons (dVar 11) dNil))))))
  (sSeq (sOm 10 oApp (dCons (dC (.str "q")) dNil))
  (sSeq (sOm 11 oApp (dCons (dLst (dCons (dOp oIx (dVar 3) (dC (.int 0))) (dCons (dC (.str "q")) dNil))) dNil))
  (sSeq (sSet 13 (dMake 4 i_Keys_D_initD_ [.tup []] (dCons (dVar 3) dNil)))
  (sSeq (sSet 14 (dIf (dTst (dOp oEq (dCall oLen (dCons (dVar 3) dNil)) (dC (.int 5)))) (dMake 4 i_Keys_D_initD_ [.tup []] (dCons (dOp oAdd (dSl (dVar 3) (dPart (dC (.int 1))) dNoPart) (dTup (dCons (dC (.str "q")) dNil))) dNil)) (dMake 4 i_Keys_D_initD_ [] (dCons (dOp oAdd (dVar 3) (dTup (dCons (dC (.str "q")) dNil))) (dCons (dOp oIx (dVar 2) (dC (.int 1))) dNil)))))
  (sSeq (sSet 9 (dLst (dCons (dOwn2 4 tbo_Keys m_Keys_D_eqD_ (dVar 12) (dVar 7)) (dCons (dNeOwn 4 tbo_Keys m_Keys_D_eqD_ (dVar 12) (dVar 7)) (dCons (dOwn2 4 tbo_Keys m_Keys_D_eqD_ (dVar 13) (dVar 7)) (dCons (dOwn2 4 tbo_Keys m_Keys_D_eqD_ (dVar 14) (dVar 7)) dNil))))))
  (sSeq (sIf (dOrB (dNotB (dTru (dCallF m__law_same [] (dCons (dVar 9) (dCons (dLst (dCons (dC (.bl true)) (dCons (dC (.bl false)) (dCons (dOp oEq (dVar 6) (dLst dNil)) (dCons (dC (.bl false)) dNil))))) dNil))))) (dTst (dOwn2 4 tbo_Keys m_Keys_D_eqD_ (dVar 7) (dVar 3)))) (sRet (dC (.bl false))) sNx)
  (sSeq (sSet 9 (dLc (dItems (dTup (dCons (dC (.str "a")) (dCons (dC (.str "city")) (dCons (dC (.str "q")) (dCons (dC (.str "#")) (dCons (dC (.str "b")) dNil))))))) (.nm 8) dYes (dInOwn false 4 m_Keys_D_containsD_ (dVar 8) (dVar 7)) [8]))
  (sIf (dNotB (dTru (dCallF m__law_same [] (dCons (dVar 9) (dCons (dOp oAdd (dLst (dCons (dOp oInD (dC (.str "a")) (dVar 3)) (dCons (dOp oInD (dC (.str "city")) (dVar 3)) dNil))) (dOp oMulX (dLst (dCons (dC (.bl false)) dNil)) (dC (.int 3)))) dNil))))) (sRet (dC (.bl false))) sNx)))))))))))))))))))
  (sRet (dC (.bl true)))))
def m__law_right : DF := runB 16 b__law_right
/-- what the top has written -/
structure Tx (P : Program) (K : PySem.W.Frag) (mg : Str → Option Value) (A : Ad) : Prop where
  n_list : mg "list" = none
  n_len : mg "len" = none
  n_sorted : mg "sorted" = none
  n_set : mg "set" = none
  n_tuple : mg "tuple" = none
  g_NUMBER : ∃ t, mg "NUMBER" = some (.str "#" t)
  x_NoName : DlX.ExC P K A.C_NoName A.i_NoName A.cc_NoName A.cda_NoName "NoName.__init__" "name" "name" (inClass (top 1) 0) "LookupError" "LookupError.__new__" "LookupError.__init__" [.type "LookupError", .type "Exception", .type "BaseException", .type "object"]
  m_NoName : mg "NoName" = some (.ref A.C_NoName)
  n_super : mg "super" = none
  fl_own_names : FldOk K A.ct "own_names" [4]
  fl_own_told : FldOk K A.ct "own_told" [4]
  m_reached : mg "reached" = some (.ref A.f_reached)
  F_reached : L2.FunD K "reached" "reached" (defArgs s_reached) (defBody s_reached) (defScope s_reached) [] [] A.f_reached A.d_reached
  b_reached : Binds K A.d_reached ["direct", "name"] []
  x_Ringed : DlX.ExC P K A.C_Ringed A.i_Ringed A.cc_Ringed A.cda_Ringed "Ringed.__init__" "ring" "ring" (inClass (top 5) 0) "ValueError" "ValueError.__new__" "ValueError.__init__" [.type "ValueError", .type "Exception", .type "BaseException", .type "object"]
  m_Ringed : mg "Ringed" = some (.ref A.C_Ringed)
  m_check_name : mg "check_name" = some (.ref A.f_check_name)
  F_check_name : L2.FunD K "check_name" "check_name" (defArgs s_check_name) (defBody s_check_name) (defScope s_check_name) [] [] A.f_check_name A.d_check_name
  b_check_name : Binds K A.d_check_name ["names", "name"] []
  m_Keys : mg "Keys" = some (.ref A.C_Keys)
  is_tb_Keys : IsiOk K A.ct (fun ty => PySem.W.kitOne K ty (.ref A.C_Keys)) tb_Keys
  n_isinstance : mg "isinstance" = none
  n_int : mg "int" = none
  is_tb_list_tuple : IsiOk K A.ct (fun ty => PySem.W.kitAny K ty [.type "list", .type "tuple"]) tb_list_tuple
  m__law_lists : mg "_law_lists" = some (.ref A.f__law_lists)
  F__law_lists : L2.FunD K "_law_lists" "_law_lists" (defArgs s__law_lists) (defBody s__law_lists) (defScope s__law_lists) [] [] A.f__law_lists A.d__law_lists
  b__law_lists : Binds K A.d__law_lists ["_law_matter"] []
  is_tb_list : IsiOk K A.ct (fun ty => PySem.W.kitOne K ty (.type "list")) tb_list
  is_tb_tuple : IsiOk K A.ct (fun ty => PySem.W.kitOne K ty (.type "tuple")) tb_tuple
  n_zip : mg "zip" = none
  m__law_same : mg "_law_same" = some (.ref A.f__law_same)
  F__law_same : L2.FunD K "_law_same" "_law_same" (defArgs s__law_same) (defBody s__law_same) (defScope s__law_same) [] [] A.f__law_same A.d__law_same
  b__law_same : Binds K A.d__law_same ["_law_got", "_law_goal"] []
  n_all : mg "all" = none
  n_str : mg "str" = none
  n_bool : mg "bool" = none
  is_tb_bool_str : IsiOk K A.ct (fun ty => PySem.W.kitAny K ty [.type "bool", .type "str"]) tb_bool_str
  is_tb_bool : IsiOk K A.ct (fun ty => PySem.W.kitOne K ty (.type "bool")) tb_bool
  is_tb_int : IsiOk K A.ct (fun ty => PySem.W.kitOne K ty (.type "int")) tb_int
  m__law_take : mg "_law_take" = some (.ref A.f__law_take)
  F__law_take : L2.FunD K "_law_take" "_law_take" (defArgs s__law_take) (defBody s__law_take) (defScope s__law_take) [] [] A.f__law_take A.d__law_take
  b__law_take : Binds K A.d__law_take ["_law_urn", "_law_low_so"] []
  n_range : mg "range" = none
  m__law_mixed : mg "_law_mixed" = some (.ref A.f__law_mixed)
  F__law_mixed : L2.FunD K "_law_mixed" "_law_mixed" (defArgs s__law_mixed) (defBody s__law_mixed) (defScope s__law_mixed) [] [] A.f__law_mixed A.d__law_mixed
  b__law_mixed : Binds K A.d__law_mixed ["_law_urn", "_law_pool"] []
  n_enumerate : mg "enumerate" = none
  n_dict : mg "dict" = none
  at_Keys_D_lenD_ : PySem.W.findIn K (.ref A.C_Keys) "__len__" = some (some (.ref A.f_Keys_D_lenD_))
  fn_Keys_D_lenD_ : PySem.W.isFn K (.ref A.f_Keys_D_lenD_) = true
  mk_Keys : Mk K A.C_Keys A.f_Keys_D_initD_
  b_Keys_D_initD_ : Binds K A.d_Keys_D_initD_ ["self", "names", "tells"] []
  b_Keys_D_lenD_ : Binds K A.d_Keys_D_lenD_ ["self"] []
  me_Keys_tells : Meth K A.C_Keys "tells" A.f_Keys_tells
  cl_Keys : Cls K A.C_Keys
  b_Keys_tells : Binds K A.d_Keys_tells ["self", "one", "other"] []
  me_Keys_told : Meth K A.C_Keys "told" A.f_Keys_told
  b_Keys_told : Binds K A.d_Keys_told ["self", "name"] []
  htst_BadField_NoName_NoPlace_Ringed : ∀ c b, tst_BadField_NoName_NoPlace_Ringed c = some b → PySem.W.exmAny K (.ref (A.ct c)) [.ref A.C_BadField, .ref A.C_NoName, .ref A.C_NoPlace, .ref A.C_Ringed] = some b
  m_NoPlace : mg "NoPlace" = some (.ref A.C_NoPlace)
  m_BadField : mg "BadField" = some (.ref A.C_BadField)
  is_tb_NoName : IsiOk K A.ct (fun ty => PySem.W.kitOne K ty (.ref A.C_NoName)) tb_NoName
  n_LookupError : mg "LookupError" = none
  is_tb_LookupError : IsiOk K A.ct (fun ty => PySem.W.kitOne K ty (.type "LookupError")) tb_LookupError
  xf_name : XfOk K A.ct "name" [0]
  at_Keys_D_containsD_ : PySem.W.findIn K (.ref A.C_Keys) "__contains__" = some (some (.ref A.f_Keys_D_containsD_))
  fn_Keys_D_containsD_ : PySem.W.isFn K (.ref A.f_Keys_D_containsD_) = true
  b_Keys_D_containsD_ : Binds K A.d_Keys_D_containsD_ ["self", "name"] []
  pr_Keys_pairs : PropOf K A.C_Keys "pairs" A.p_Keys_pairs A.f_Keys_pairs
  b_Keys_pairs : Binds K A.d_Keys_pairs ["self"] []
  pr_Keys_names : PropOf K A.C_Keys "names" A.p_Keys_names A.f_Keys_names
  b_Keys_names : Binds K A.d_Keys_names ["self"] []
  m__law_heard : mg "_law_heard" = some (.ref A.f__law_heard)
  F__law_heard : L2.FunD K "_law_heard" "_law_heard" (defArgs s__law_heard) (defBody s__law_heard) (defScope s__law_heard) [] [] A.f__law_heard A.d__law_heard
  b__law_heard : Binds K A.d__law_heard ["_law_way", "_law_keyring", "_law_own", "_law_far"] []
  dd_Keys_D_initD_ : DefOk K A.ct [.ref A.e0_Keys_D_initD_] [.tup []]
  bd_Keys_D_initD_ : ∃ ds, Vals [.ref A.e0_Keys_D_initD_] ds ∧ Binds K A.d_Keys_D_initD_ ["self", "names", "tells"] ds
  q_Keys_D_eqD_ : ∀ ty, tbo_Keys ty = true → PySem.W.notFirst K A.C_Keys (tyVal A.ct ty) = true
  at_Keys_D_eqD_ : PySem.W.findIn K (.ref A.C_Keys) "__eq__" = some (some (.ref A.f_Keys_D_eqD_))
  fn_Keys_D_eqD_ : PySem.W.isFn K (.ref A.f_Keys_D_eqD_) = true
  b_Keys_D_eqD_ : Binds K A.d_Keys_D_eqD_ ["self", "other"] []
  m__law_by_hand_right : mg "_law_by_hand_right" = some (.ref A.f__law_by_hand_right)
  F__law_by_hand_right : L2.FunD K "_law_by_hand_right" "_law_by_hand_right" (defArgs s__law_by_hand_right) (defBody s__law_by_hand_right) (defScope s__law_by_hand_right) [] [] A.f__law_by_hand_right A.d__law_by_hand_right
  b__law_by_hand_right : Binds K A.d__law_by_hand_right [] []
  m__law_book : mg "_law_book" = some (.ref A.f__law_book)
  F__law_book : L2.FunD K "_law_book" "_law_book" (defArgs s__law_book) (defBody s__law_book) (defScope s__law_book) [] [] A.f__law_book A.d__law_book
  b__law_book : Binds K A.d__law_book ["_law_urn", "_law_most_so"] []
  m__law_told : mg "_law_told" = some (.ref A.f__law_told)
  F__law_told : L2.FunD K "_law_told" "_law_told" (defArgs s__law_told) (defBody s__law_told) (defScope s__law_told) [] [] A.f__law_told A.d__law_told
  b__law_told : Binds K A.d__law_told ["_law_book_here"] []
  m__law_few : mg "_law_few" = some (.ref A.f__law_few)
  F__law_few : L2.FunD K "_law_few" "_law_few" (defArgs s__law_few) (defBody s__law_few) (defScope s__law_few) [] [] A.f__law_few A.d__law_few
  b__law_few : Binds K A.d__law_few ["_law_urn", "_law_pool", "_law_one_of"] []
  kb_Keys_told__0_name : KB K A.d_Keys_told ["self", "name"] 1 ["name"] [0, 1]
  kb_Keys_tells__0_one_other : KB K A.d_Keys_tells ["self", "one", "other"] 1 ["one", "other"] [0, 1, 2]
  kb_Keys_D_initD___0_names_tells : KB K A.d_Keys_D_initD_ ["self", "names", "tells"] 1 ["names", "tells"] [0, 1, 2]
  ne_Keys : PySem.W.findIn K (.ref A.C_Keys) "__ne__" = some (some (.builtin "object.__ne__"))
  mo_Keys : PySem.W.mroIn K A.C_Keys (.type "object") = some true
  F_Keys_D_initD_ : L2.FunD K "__init__" "Keys.__init__" (defArgs s_Keys_D_initD_) (defBody s_Keys_D_initD_) (defScope s_Keys_D_initD_) [.ref A.e0_Keys_D_initD_] [] A.f_Keys_D_initD_ A.d_Keys_D_initD_
  F_Keys_names : L2.FunD K "names" "Keys.names" (defArgs s_Keys_names) (defBody s_Keys_names) (defScope s_Keys_names) [] [] A.f_Keys_names A.d_Keys_names
  F_Keys_pairs : L2.FunD K "pairs" "Keys.pairs" (defArgs s_Keys_pairs) (defBody s_Keys_pairs) (defScope s_Keys_pairs) [] [] A.f_Keys_pairs A.d_Keys_pairs
  F_Keys_told : L2.FunD K "told" "Keys.told" (defArgs s_Keys_told) (defBody s_Keys_told) (defScope s_Keys_told) [] [] A.f_Keys_told A.d_Keys_told
  F_Keys_tells : L2.FunD K "tells" "Keys.tells" (defArgs s_Keys_tells) (defBody s_Keys_tells) (defScope s_Keys_tells) [] [] A.f_Keys_tells A.d_Keys_tells
  F_Keys_D_containsD_ : L2.FunD K "__contains__" "Keys.__contains__" (defArgs s_Keys_D_containsD_) (defBody s_Keys_D_containsD_) (defScope s_Keys_D_containsD_) [] [] A.f_Keys_D_containsD_ A.d_Keys_D_containsD_
  F_Keys_D_lenD_ : L2.FunD K "__len__" "Keys.__len__" (defArgs s_Keys_D_lenD_) (defBody s_Keys_D_lenD_) (defScope s_Keys_D_lenD_) [] [] A.f_Keys_D_lenD_ A.d_Keys_D_lenD_
  F_Keys_D_eqD_ : L2.FunD K "__eq__" "Keys.__eq__" (defArgs s_Keys_D_eqD_) (defBody s_Keys_D_eqD_) (defScope s_Keys_D_eqD_) [] [] A.f_Keys_D_eqD_ A.d_Keys_D_eqD_
  F__law_box : L2.FunD K "_law_box" "_law_box" (defArgs s__law_box) (defBody s__law_box) (defScope s__law_box) [] [] A.f__law_box A.d__law_box
  F__law_cells : L2.FunD K "_law_cells" "_law_cells" (defArgs s__law_cells) (defBody s__law_cells) (defScope s__law_cells) [] [] A.f__law_cells A.d__law_cells
  F__law_right : L2.FunD K "_law_right" "_law_right" (defArgs s__law_right) (defBody s__law_right) (defScope s__law_right) [] [] A.f__law_right A.d__law_right
  F_law : L2.FunD K "law" "law" (defArgs s_law) (defBody s_law) (defScope s_law) [] [] A.f_law A.d_law
  n_abs : mg "abs" = none
  m__law_right : mg "_law_right" = some (.ref A.f__law_right)
  b__law_right : Binds K A.d__law_right ["_law_urn"] []
  m__law_box : mg "_law_box" = some (.ref A.f__law_box)
  b__law_box : Binds K A.d__law_box ["_law_script", "_law_k"] []
  m__law_cells : mg "_law_cells" = some (.ref A.f__law_cells)
  b__law_cells : Binds K A.d__law_cells ["_law_script", "_law_top"] []
  m_law : mg "law" = some (.ref A.f_law)
  b_law : Binds K A.d_law ["_law_script"] []
section
variable {P : Program} {w : World} {K : PySem.W.Frag} {mg : Str → Option Value} {base : Heap} {A : Ad}
theorem ok_reached (T : Tx P K mg A) : FnOk P w K mg base (L2.CX P w) 1 A.f_reached A.d_reached ["direct", "name"] (spD K A.ct 2 m_reached) :=
  fn_D T.F_reached sc_reached fun cdv A1 outer s H E hr =>
  (psds_cons (psd_setN sc_reached.nd rfl (by first | exact Or.inl rfl | exact Or.inr rfl) (pdn_list (by rfl) T.n_list (pda_cons (pd_ix (hu_of hr) (pd_var (pv 0)) (pd_var (pv 1))) pda_nil)))
  (psds_cons (psd_set sc_reached.nd rfl (by first | exact Or.inl rfl | exact Or.inr rfl) pd_int)
  (psds_cons (psd_while 100 bx_passes (pdb_cmp (op_lt) rop_lt (pd_var (pv 3)) (pd_callB cr_len rcp_len (by rfl) T.n_len PySem.boot_len (pda_cons (pd_var (pv 2)) pda_nil)) (nomark _)) (psds_cons (psd_om (pv 2) PySem.F.slot_list_extend PySem.F.type_list_extend mt_extend rom_ext (pda_cons (pd_ofN (pdn_lend (pdn_lc (own := [("other", 4)]) rfl sc_reached.nd (by decide) (pdi_seq (pd_ix (hu_of hr) (pd_var (pv 0)) (pd_ix (hu_of hr) (pd_var (pv 2)) (pd_var (pv 3))))) (blkOk_by (by show blkC ["direct", "name", "found", "at", "other"] (defScope s_reached) _ _ = true; decide +kernel)) (fun _ _ _ _ _ => (pg_name (i := 4) sc_reached.nd rfl (by first | exact Or.inl rfl | exact Or.inr rfl))) (fun _ _ _ _ _ => (pdts_one (pdb_cmp (opr_notIn (u65 hr)) rop_notIn (pd_var (pv 4)) (pd_var (pv 2)) rfl))) (fun _ _ _ _ _ => (pd_var (pv 4)))))) pda_nil))
  (psds_one (psd_aug sc_reached.nd rfl (by first | exact Or.inl rfl | exact Or.inr rfl) pd_int ip_add rop_ipadd))))
  (psds_one (psd_ret (pd_callTy call_tuple_of rcp_tuple (by rfl) T.n_tuple PyProof.Rows.boot_tuple (pda_cons (pd_sset rfl (by rfl) T.n_sorted (by rfl) T.n_set (pda_cons (pd_var (pv 2)) pda_nil)) pda_nil)))))))
theorem ok_check_name (T : Tx P K mg A) : FnOk P w K mg base (L2.CX P w) 2 A.f_check_name A.d_check_name ["names", "name"] (spD K A.ct 2 m_check_name) :=
  fn_D T.F_check_name sc_check_name fun cdv A1 outer s H E hr =>
  (psds_one (psd_if (pdw_and (pdb_cmp (op_neD hr.units) rop_ne (pd_var (pv 1)) (pd_gstr (by rfl) T.g_NUMBER.choose_spec) (nomark _)) (pdw_and1 (pdb_cmp (opr_notIn (u65 hr)) rop_notIn (pd_var (pv 1)) (pd_var (pv 0)) rfl))).b (psds_one (psd_raise T.x_NoName xt_NoName T.n_super (hr.mono (by decide)) rfl bx_takes (by rfl) T.m_NoName (pd_var (pv 1)))) psds_nil))
theorem ok_Keys_D_initD_ (T : Tx P K mg A) : FnOk P w K mg base (L2.CX P w) 2 A.f_Keys_D_initD_ A.d_Keys_D_initD_ ["self", "names", "tells"] (spI K A.ct 4 3 i_Keys_D_initD_) :=
  fn_I T.F_Keys_D_initD_ sc_Keys_D_initD_ fun cdv A1 outer s H E hr =>
  (psds_cons (psd_for bx_passes rfl (pdi_seq (pd_var (pv 2))) (pg_name (i := 3) sc_Keys_D_initD_.nd rfl (by first | exact Or.inl rfl | exact Or.inr rfl)) (psds_one (psd_for bx_passes rfl (pdi_seq (pd_var (pv 3))) (pg_name (i := 4) sc_Keys_D_initD_.nd rfl (by first | exact Or.inl rfl | exact Or.inr rfl)) (psds_one (psd_if (pdb_cmp (opr_notIn (u65 hr)) rop_notIn (pd_var (pv 4)) (pd_var (pv 1)) rfl) (psds_one (psd_raise T.x_NoName xt_NoName T.n_super (hr.mono (by decide)) rfl bx_takes (by rfl) T.m_NoName (pd_var (pv 4)))) psds_nil)))))
  (psds_cons (psd_fldO T.fl_own_names (pv 0) (pd_callTy call_tuple_of rcp_tuple (by rfl) T.n_tuple PyProof.Rows.boot_tuple (pda_cons (pd_sset rfl (by rfl) T.n_sorted (by rfl) T.n_set (pda_cons (pd_var (pv 1)) pda_nil)) pda_nil)))
  (psds_cons (psd_set sc_Keys_D_initD_.nd rfl (by first | exact Or.inl rfl | exact Or.inr rfl) (pd_dc (own := [("name", 4)]) rfl sc_Keys_D_initD_.nd (by decide) (pdi_seq (pd_fldO T.fl_own_names (pv 0))) (blkOk_by (by show blkC ["self", "names", "tells", "pair", "name", "direct", "ringed", "one", "other"] (defScope s_Keys_D_initD_) _ _ = true; decide +kernel)) (fun _ _ _ _ _ => (pg_name (i := 4) sc_Keys_D_initD_.nd rfl (by first | exact Or.inl rfl | exact Or.inr rfl))) (fun _ _ _ _ _ => pdts_nil) (fun _ _ _ _ _ => (pd_var (pv 4))) (fun _ _ _ _ _ => (pd_lc (own := [("one", 7), ("other", 8)]) rfl sc_Keys_D_initD_.nd (by decide) (pdi_seq (pd_var (pv 2))) (blkOk_by (by show blkC ["self", "names", "tells", "pair", "name", "direct", "ringed", "one", "other"] (compSc (defScope s_Keys_D_initD_) _) _ _ = true; decide +kernel)) (fun _ _ _ _ _ => (pg_tp rfl (pgs_cons (pg_name (i := 7) sc_Keys_D_initD_.nd rfl (by first | exact Or.inl rfl | exact Or.inr rfl)) (pgs_cons (pg_name (i := 8) sc_Keys_D_initD_.nd rfl (by first | exact Or.inl rfl | exact Or.inr rfl)) pgs_nil)))) (fun _ _ _ _ _ => (pdts_one (pdb_cmp (op_eqD hr.units) rop_eq (pd_var (pv 7)) (pd_var (pv 4)) (nomark _)))) (fun _ _ _ _ _ => (pd_var (pv 8)))))))
  (psds_cons (psd_fldO T.fl_own_told (pv 0) (pd_dc (own := [("name", 4)]) rfl sc_Keys_D_initD_.nd (by decide) (pdi_seq (pd_fldO T.fl_own_names (pv 0))) (blkOk_by (by show blkC ["self", "names", "tells", "pair", "name", "direct", "ringed", "one", "other"] (defScope s_Keys_D_initD_) _ _ = true; decide +kernel)) (fun _ _ _ _ _ => (pg_name (i := 4) sc_Keys_D_initD_.nd rfl (by first | exact Or.inl rfl | exact Or.inr rfl))) (fun _ _ _ _ _ => pdts_nil) (fun _ _ _ _ _ => (pd_var (pv 4))) (fun _ _ _ _ _ => (pd_call (ok_reached T) rfl (hr.mono (by decide)) (by rfl) T.m_reached T.F_reached.kp T.b_reached .nil defOk0 paE0 (pda_cons (pd_var (pv 5)) (pda_cons (pd_var (pv 4)) pda_nil)) rfl (hlen := (lenA_cons (lenA_cons lenA_nil)))))))
  (psds_cons (psd_setLc (i := 6) (own := [("name", 4)]) rfl sc_Keys_D_initD_.nd rfl rfl (sw_true rfl rfl rfl (by decide +kernel)) (by decide) (pdi_seq (pd_fldO T.fl_own_names (pv 0))) (blkOk_by (by show blkC ["self", "names", "tells", "pair", "name", "direct", "ringed", "one", "other"] (defScope s_Keys_D_initD_) _ _ = true; decide +kernel)) (fun _ _ _ _ _ => (pg_name (i := 4) sc_Keys_D_initD_.nd rfl (by first | exact Or.inl rfl | exact Or.inr rfl))) (fun _ _ _ _ _ => (pdts_one (pdb_cmp (opr_in (u65 hr)) rop_in (pd_var (pv 4)) (pd_ix (hu_of hr) (pd_fldO T.fl_own_told (pv 0)) (pd_var (pv 4))) rfl))) (fun _ _ _ _ _ => (pd_var (pv 4))))
  (psds_one (psd_if (pdb_cmp (op_gt) rop_gt (pd_callB cr_len rcp_len (by rfl) T.n_len PySem.boot_len (pda_cons (pd_var (pv 6)) pda_nil)) pd_int (nomark _)) (psds_one (psd_raise T.x_Ringed xt_Ringed T.n_super (hr.mono (by decide)) rfl bx_takes (by rfl) T.m_Ringed (pd_callTy call_tuple_of rcp_tuple (by rfl) T.n_tuple PyProof.Rows.boot_tuple (pda_cons (pd_var (pv 6)) pda_nil)))) psds_nil)))))))
theorem ok_Keys_names (T : Tx P K mg A) : FnOk P w K mg base (L2.CX P w) 1 A.f_Keys_names A.d_Keys_names ["self"] (spD K A.ct 1 m_Keys_names) :=
  fn_D T.F_Keys_names sc_Keys_names fun cdv A1 outer s H E hr =>
  (psds_one (psd_ret (pd_fld T.fl_own_names (pd_var (pv 0)))))
theorem ok_Keys_pairs (T : Tx P K mg A) : FnOk P w K mg base (L2.CX P w) 1 A.f_Keys_pairs A.d_Keys_pairs ["self"] (spD K A.ct 1 m_Keys_pairs) :=
  fn_D T.F_Keys_pairs sc_Keys_pairs fun cdv A1 outer s H E hr =>
  (psds_one (psd_ret (pd_callTy call_tuple_of rcp_tuple (by rfl) T.n_tuple PyProof.Rows.boot_tuple (pda_cons (pd_lc2 (own := [("one", 1), ("other", 2)]) (vs1 := [2]) rfl sc_Keys_pairs.nd (by decide) (by decide) (pdi_seq (pd_fld T.fl_own_names (pd_var (pv 0)))) (blkOk_by (by show blkC ["self", "one", "other"] (defScope s_Keys_pairs) _ _ = true; decide +kernel)) (by decide) (fun _ _ _ _ _ => (pg_name (i := 1) sc_Keys_pairs.nd rfl (by first | exact Or.inl rfl | exact Or.inr rfl))) (fun _ _ _ _ _ => pdts_nil) (fun _ _ _ _ _ => (pdi_seq (pd_ix (hu_of hr) (pd_fld T.fl_own_told (pd_var (pv 0))) (pd_var (pv 1))))) (fun _ _ _ _ _ => (pg_name (i := 2) sc_Keys_pairs.nd rfl (by first | exact Or.inl rfl | exact Or.inr rfl))) (fun _ _ _ _ _ => pdts_nil) (fun _ _ _ _ _ => (pd_tup (pda_cons (pd_var (pv 1)) (pda_cons (pd_var (pv 2)) pda_nil))))) pda_nil))))
theorem ok_Keys_told (T : Tx P K mg A) : FnOk P w K mg base (L2.CX P w) 3 A.f_Keys_told A.d_Keys_told ["self", "name"] (spD K A.ct 2 m_Keys_told) :=
  fn_D T.F_Keys_told sc_Keys_told fun cdv A1 outer s H E hr =>
  (psds_cons (psd_drop (pd_call (ok_check_name T) rfl (hr.mono (by decide)) (by rfl) T.m_check_name T.F_check_name.kp T.b_check_name .nil defOk0 bx_pa (pda_cons (pd_fld T.fl_own_names (pd_var (pv 0))) (pda_cons (pd_var (pv 1)) pda_nil)) rfl (hlen := (lenA_cons (lenA_cons lenA_nil)))))
  (psds_one (psd_ret (pd_if (pdb_cmp (op_eqD hr.units) rop_eq (pd_var (pv 1)) (pd_gstr (by rfl) T.g_NUMBER.choose_spec) (nomark _)) (pd_fld T.fl_own_names (pd_var (pv 0))) (pd_ix (hu_of hr) (pd_fld T.fl_own_told (pd_var (pv 0))) (pd_var (pv 1)))))))
theorem ok_Keys_tells (T : Tx P K mg A) : FnOk P w K mg base (L2.CX P w) 3 A.f_Keys_tells A.d_Keys_tells ["self", "one", "other"] (spD K A.ct 3 m_Keys_tells) :=
  fn_D T.F_Keys_tells sc_Keys_tells fun cdv A1 outer s H E hr =>
  (psds_cons (psd_drop (pd_call (ok_check_name T) rfl (hr.mono (by decide)) (by rfl) T.m_check_name T.F_check_name.kp T.b_check_name .nil defOk0 bx_pa (pda_cons (pd_fld T.fl_own_names (pd_var (pv 0))) (pda_cons (pd_var (pv 1)) pda_nil)) rfl (hlen := (lenA_cons (lenA_cons lenA_nil)))))
  (psds_cons (psd_drop (pd_call (ok_check_name T) rfl (hr.mono (by decide)) (by rfl) T.m_check_name T.F_check_name.kp T.b_check_name .nil defOk0 bx_pa (pda_cons (pd_fld T.fl_own_names (pd_var (pv 0))) (pda_cons (pd_var (pv 2)) pda_nil)) rfl (hlen := (lenA_cons (lenA_cons lenA_nil)))))
  (psds_one (psd_ret (pd_if (pdb_cmp (op_eqD hr.units) rop_eq (pd_var (pv 1)) (pd_gstr (by rfl) T.g_NUMBER.choose_spec) (nomark _)) (pd_cmp (op_neD hr.units) rop_ne (pd_var (pv 2)) (pd_gstr (by rfl) T.g_NUMBER.choose_spec) (nomark _)) (pd_cmp (opr_in (u65 hr)) rop_in (pd_var (pv 2)) (pd_ix (hu_of hr) (pd_fld T.fl_own_told (pd_var (pv 0))) (pd_var (pv 1))) rfl))))))
theorem ok_Keys_D_containsD_ (T : Tx P K mg A) : FnOk P w K mg base (L2.CX P w) 1 A.f_Keys_D_containsD_ A.d_Keys_D_containsD_ ["self", "name"] (spD K A.ct 2 m_Keys_D_containsD_) :=
  fn_D T.F_Keys_D_containsD_ sc_Keys_D_containsD_ fun cdv A1 outer s H E hr =>
  (psds_one (psd_ret (pd_cmp (opr_in (u65 hr)) rop_in (pd_var (pv 1)) (pd_fld T.fl_own_names (pd_var (pv 0))) rfl)))
theorem ok_Keys_D_lenD_ (T : Tx P K mg A) : FnOk P w K mg base (L2.CX P w) 1 A.f_Keys_D_lenD_ A.d_Keys_D_lenD_ ["self"] (spD K A.ct 1 m_Keys_D_lenD_) :=
  fn_D T.F_Keys_D_lenD_ sc_Keys_D_lenD_ fun cdv A1 outer s H E hr =>
  (psds_one (psd_ret (pd_callB cr_len rcp_len (by rfl) T.n_len PySem.boot_len (pda_cons (pd_fld T.fl_own_names (pd_var (pv 0))) pda_nil))))
theorem ok_Keys_D_eqD_ (T : Tx P K mg A) : FnOk P w K mg base (L2.CX P w) 1 A.f_Keys_D_eqD_ A.d_Keys_D_eqD_ ["self", "other"] (spD K A.ct 2 m_Keys_D_eqD_) :=
  fn_D T.F_Keys_D_eqD_ sc_Keys_D_eqD_ fun cdv A1 outer s H E hr =>
  (psds_one (psd_ret (pd_and (pd_isi1 (by rfl) T.n_isinstance (pd_var (pv 1)) (pe_glob (v := .ref A.C_Keys) (by rfl) T.m_Keys rfl) (.own A.C_Keys) T.is_tb_Keys) (pd_and (pd_cmp (op_eqD hr.units) rop_eq (pd_fld T.fl_own_names (pd_var (pv 0))) (pd_fld T.fl_own_names (pd_var (pv 1))) (nomark _)) (pd_one (pd_cmp (opr_eq (u65 hr)) rop_eqA (pd_fld T.fl_own_told (pd_var (pv 0))) (pd_fld T.fl_own_told (pd_var (pv 1))) (nomark _)))))))
theorem ok__law_take (T : Tx P K mg A) : FnOk P w K mg base (L2.CX P w) 1 A.f__law_take A.d__law_take ["_law_urn", "_law_low_so"] (spD K A.ct 2 m__law_take) :=
  fn_D T.F__law_take sc__law_take fun cdv A1 outer s H E hr =>
  (psds_cons (psd_if (pdb_cmp (op_gt) rop_gt (pd_urn (pv 0)) pd_int (nomark _)) (psds_cons (psd_set sc__law_take.nd rfl (by first | exact Or.inl rfl | exact Or.inr rfl) (pd_op op_mod rop_mod (pd_callTy call_int1 rcp_int (by rfl) T.n_int PyProof.Rows.boot_int (pda_cons (pd_urn (pv 0)) pda_nil)) (pd_var (pv 1))))
  (psds_cons (psd_urn (pv 0) (pd_op op_fdivW rop_div (pd_urn (pv 0)) (pd_var (pv 1))))
  (psds_one (psd_ret (pd_var (pv 2)))))) psds_nil)
  (psds_cons (psd_urn (pv 0) (pd_op opr_add rop_add (pd_urn (pv 0)) pd_int))
  (psds_cons (psd_set sc__law_take.nd rfl (by first | exact Or.inl rfl | exact Or.inr rfl) (pd_op op_mod rop_mod (pd_callTy call_int1 rcp_int (by rfl) T.n_int PyProof.Rows.boot_int (pda_cons (pd_op opr_mul rop_mul (pd_op opr_add rop_add (pd_urn (pv 0)) (pd_op opr_mul rop_mul pd_int (pd_urn (pv 0)))) (pd_op opr_add rop_add pd_int (pd_urn (pv 0)))) pda_nil)) pd_int))
  (psds_cons (psd_set sc__law_take.nd rfl (by first | exact Or.inl rfl | exact Or.inr rfl) (pd_op opr_add rop_add (pd_op op_mod rop_mod (pd_callTy call_int1 rcp_int (by rfl) T.n_int PyProof.Rows.boot_int (pda_cons (pd_var (pv 3)) pda_nil)) pd_int) pd_int))
  (psds_cons (psd_set sc__law_take.nd rfl (by first | exact Or.inl rfl | exact Or.inr rfl) (pd_op op_mod rop_mod (pd_callTy call_int1 rcp_int (by rfl) T.n_int PyProof.Rows.boot_int (pda_cons (pd_op opr_mul rop_mul (pd_op opr_add rop_add (pd_op opr_add rop_add (pd_var (pv 3)) (pd_urn (pv 0))) (pd_op op_fdivW rop_div (pd_urn (pv 0)) pd_int)) (pd_var (pv 4))) pda_nil)) pd_int))
  (psds_one (psd_ret (pd_op op_mod rop_mod (pd_callTy call_int1 rcp_int (by rfl) T.n_int PyProof.Rows.boot_int (pda_cons (pd_op op_fdivW rop_div (pd_op op_mod rop_mod (pd_callTy call_int1 rcp_int (by rfl) T.n_int PyProof.Rows.boot_int (pda_cons (pd_op opr_add rop_add (pd_op opr_mul rop_mul (pd_var (pv 5)) pd_int) (pd_var (pv 3))) pda_nil)) pd_int) pd_int) pda_nil)) (pd_var (pv 1))))))))))
theorem or__law_lists (T : Tx P K mg A) : ∀ n : Nat, FnOk P w K mg base (L2.CX P w) n A.f__law_lists A.d__law_lists ["_law_matter"] (spD K A.ct 1 (r__law_lists n))
  | 0 => fnok0
  | n + 1 => by
    have ih := or__law_lists T n
    exact fn_D T.F__law_lists sc__law_lists fun cdv A1 outer s H E hr =>
  (psds_one (psd_ret (pd_if (pdb_truth (pd_isiT (by rfl) T.n_isinstance (pd_var (pv 0)) (.cons (pe_bltn (v := .ty "list") (by rfl) T.n_list PyProof.Rows.boot_list (by rfl)) (.ty "list") rfl (.cons (pe_bltn (v := .ty "tuple") (by rfl) T.n_tuple PyProof.Rows.boot_tuple (by rfl)) (.ty "tuple") rfl .nil)) (Nat.le_of_ble_eq_true rfl) T.is_tb_list_tuple)) (pd_lc (own := [("_law_bit", 1)]) rfl sc__law_lists.nd (by decide) (pdi_seq (pd_var (pv 0))) (blkOk_by (by show blkC ["_law_matter", "_law_bit"] (defScope s__law_lists) _ _ = true; decide +kernel)) (fun _ _ _ _ _ => (pg_name (i := 1) sc__law_lists.nd rfl (by first | exact Or.inl rfl | exact Or.inr rfl))) (fun _ _ _ _ _ => pdts_nil) (fun _ _ _ _ _ => (pd_call ih rfl hr (by rfl) T.m__law_lists T.F__law_lists.kp T.b__law_lists .nil defOk0 paE0 (pda_cons (pd_var (pv 1)) pda_nil) rfl (hlen := (lenA_cons lenA_nil))))) (pd_var (pv 0)))))
theorem ok__law_lists (T : Tx P K mg A) : FnOk P w K mg base (L2.CX P w) 6 A.f__law_lists A.d__law_lists ["_law_matter"] (spD K A.ct 1 m__law_lists) := or__law_lists T 6
theorem okn__law_lists (T : Tx P K mg A) : FnOk P w K mg base (L2.CX P w) 7 A.f__law_lists A.d__law_lists ["_law_matter"] (spN K A.ct 1 n__law_lists) :=
  fn_N T.F__law_lists sc__law_lists rfl fun cdv A1 outer s H E hr =>
  (pdn_ifT (pdb_truth (pd_isiT (by rfl) T.n_isinstance (pd_var (pv 0)) (.cons (pe_bltn (v := .ty "list") (by rfl) T.n_list PyProof.Rows.boot_list (by rfl)) (.ty "list") rfl (.cons (pe_bltn (v := .ty "tuple") (by rfl) T.n_tuple PyProof.Rows.boot_tuple (by rfl)) (.ty "tuple") rfl .nil)) (Nat.le_of_ble_eq_true rfl) T.is_tb_list_tuple)) (pdn_lc (own := [("_law_bit", 1)]) rfl sc__law_lists.nd (by decide) (pdi_seq (pd_var (pv 0))) (blkOk_by (by show blkC ["_law_matter", "_law_bit"] (defScope s__law_lists) _ _ = true; decide +kernel)) (fun _ _ _ _ _ => (pg_name (i := 1) sc__law_lists.nd rfl (by first | exact Or.inl rfl | exact Or.inr rfl))) (fun _ _ _ _ _ => pdts_nil) (fun _ _ _ _ _ => (pd_call (ok__law_lists T) rfl (hr.mono (by decide)) (by rfl) T.m__law_lists T.F__law_lists.kp T.b__law_lists .nil defOk0 paE0 (pda_cons (pd_var (pv 1)) pda_nil) rfl (hlen := (lenA_cons lenA_nil))))))
theorem or__law_same (T : Tx P K mg A) : ∀ n : Nat, FnOk P w K mg base (L2.CX P w) n A.f__law_same A.d__law_same ["_law_got", "_law_goal"] (spD K A.ct 2 (r__law_same n))
  | 0 => fnok0
  | n + 1 => by
    have ih := or__law_same T n
    exact fn_D T.F__law_same sc__law_same fun cdv A1 outer s H E hr =>
  (psds_cons (psd_if (pdb_truth (pd_isiT (by rfl) T.n_isinstance (pd_var (pv 1)) (.cons (pe_bltn (v := .ty "list") (by rfl) T.n_list PyProof.Rows.boot_list (by rfl)) (.ty "list") rfl (.cons (pe_bltn (v := .ty "tuple") (by rfl) T.n_tuple PyProof.Rows.boot_tuple (by rfl)) (.ty "tuple") rfl .nil)) (Nat.le_of_ble_eq_true rfl) T.is_tb_list_tuple)) (psds_cons (psd_if (pdw_or (pdb_cmp (op_neD hr.units) rop_ne (pd_isi1 (by rfl) T.n_isinstance (pd_var (pv 0)) (pe_bltn (v := .ty "list") (by rfl) T.n_list PyProof.Rows.boot_list (by rfl)) (.ty "list") T.is_tb_list) (pd_isi1 (by rfl) T.n_isinstance (pd_var (pv 1)) (pe_bltn (v := .ty "list") (by rfl) T.n_list PyProof.Rows.boot_list (by rfl)) (.ty "list") T.is_tb_list) (nomark _)) (pdw_or1 (pdb_cmp (op_neD hr.units) rop_ne (pd_isi1 (by rfl) T.n_isinstance (pd_var (pv 0)) (pe_bltn (v := .ty "tuple") (by rfl) T.n_tuple PyProof.Rows.boot_tuple (by rfl)) (.ty "tuple") T.is_tb_tuple) (pd_isi1 (by rfl) T.n_isinstance (pd_var (pv 1)) (pe_bltn (v := .ty "tuple") (by rfl) T.n_tuple PyProof.Rows.boot_tuple (by rfl)) (.ty "tuple") T.is_tb_tuple) (nomark _)))).b (psds_one (psd_ret pd_bl)) psds_nil)
  (psds_one (psd_ret (pd_and (pd_cmp (op_eqD hr.units) rop_eq (pd_callB cr_len rcp_len (by rfl) T.n_len PySem.boot_len (pda_cons (pd_var (pv 0)) pda_nil)) (pd_callB cr_len rcp_len (by rfl) T.n_len PySem.boot_len (pda_cons (pd_var (pv 1)) pda_nil)) (nomark _)) (pd_one (pd_callB (cr_all rfl) rcp_all (by rfl) T.n_all PyProof.Rows.boot_all (pda_cons (pd_lc (own := [("_law_mine_so", 2), ("_law_own", 3)]) rfl sc__law_same.nd (by decide) (pdi_zipA (by rfl) T.n_zip (pda_cons (pd_var (pv 0)) (pda_cons (pd_var (pv 1)) pda_nil))) (blkOk_by (by show blkC ["_law_got", "_law_goal", "_law_mine_so", "_law_own"] (defScope s__law_same) _ _ = true; decide +kernel)) (fun _ _ _ _ _ => (pg_tp rfl (pgs_cons (pg_name (i := 2) sc__law_same.nd rfl (by first | exact Or.inl rfl | exact Or.inr rfl)) (pgs_cons (pg_name (i := 3) sc__law_same.nd rfl (by first | exact Or.inl rfl | exact Or.inr rfl)) pgs_nil)))) (fun _ _ _ _ _ => pdts_nil) (fun _ _ _ _ _ => (pd_call ih rfl hr (by rfl) T.m__law_same T.F__law_same.kp T.b__law_same .nil defOk0 paE0 (pda_cons (pd_var (pv 2)) (pda_cons (pd_var (pv 3)) pda_nil)) rfl (hlen := (lenA_cons (lenA_cons lenA_nil)))))) pda_nil))))))) psds_nil)
  (psds_cons (psd_if (pdw_or (pdb_cmp (opr_is) rop_is (pd_var (pv 1)) pd_non (nomark _)) (pdw_or1 (pdb_truth (pd_isiT (by rfl) T.n_isinstance (pd_var (pv 1)) (.cons (pe_bltn (v := .ty "bool") (by rfl) T.n_bool PyProof.Rows.boot_bool (by rfl)) (.ty "bool") rfl (.cons (pe_bltn (v := .ty "str") (by rfl) T.n_str PyProof.Rows.boot_str (by rfl)) (.ty "str") rfl .nil)) (Nat.le_of_ble_eq_true rfl) T.is_tb_bool_str)))).b (psds_one (psd_ret (pd_and (pd_cmp (op_eqD hr.units) rop_eq (pd_var (pv 0)) (pd_var (pv 1)) (nomark _)) (pd_and (pd_cmp (op_eqD hr.units) rop_eq (pd_isi1 (by rfl) T.n_isinstance (pd_var (pv 0)) (pe_bltn (v := .ty "bool") (by rfl) T.n_bool PyProof.Rows.boot_bool (by rfl)) (.ty "bool") T.is_tb_bool) (pd_isi1 (by rfl) T.n_isinstance (pd_var (pv 1)) (pe_bltn (v := .ty "bool") (by rfl) T.n_bool PyProof.Rows.boot_bool (by rfl)) (.ty "bool") T.is_tb_bool) (nomark _)) (pd_one (pd_cmp (op_eqD hr.units) rop_eq (pd_cmp (opr_is) rop_is (pd_var (pv 0)) pd_non (nomark _)) (pd_cmp (opr_is) rop_is (pd_var (pv 1)) pd_non (nomark _)) (nomark _))))))) psds_nil)
  (psds_one (psd_ret (pd_and (pd_isi1 (by rfl) T.n_isinstance (pd_var (pv 0)) (pe_bltn (v := .ty "int") (by rfl) T.n_int PyProof.Rows.boot_int (by rfl)) (.ty "int") T.is_tb_int) (pd_and (pd_not (pd_isi1 (by rfl) T.n_isinstance (pd_var (pv 0)) (pe_bltn (v := .ty "bool") (by rfl) T.n_bool PyProof.Rows.boot_bool (by rfl)) (.ty "bool") T.is_tb_bool)) (pd_one (pd_cmp (op_eqD hr.units) rop_eq (pd_var (pv 0)) (pd_var (pv 1)) (nomark _)))))))))
theorem ok__law_same (T : Tx P K mg A) : FnOk P w K mg base (L2.CX P w) 6 A.f__law_same A.d__law_same ["_law_got", "_law_goal"] (spD K A.ct 2 m__law_same) := or__law_same T 6
theorem ok__law_few (T : Tx P K mg A) : FnOk P w K mg base (L2.CX P w) 2 A.f__law_few A.d__law_few ["_law_urn", "_law_pool", "_law_one_of"] (spD K A.ct 3 m__law_few) :=
  fn_D T.F__law_few sc__law_few fun cdv A1 outer s H E hr =>
  (psds_one (psd_ret (pd_callTy call_tuple_of rcp_tuple (by rfl) T.n_tuple PyProof.Rows.boot_tuple (pda_cons (pd_lc (own := [("_law_own", 3)]) rfl sc__law_few.nd (by decide) (pdi_seq (pd_var (pv 1))) (blkOk_by (by show blkC ["_law_urn", "_law_pool", "_law_one_of", "_law_own"] (defScope s__law_few) _ _ = true; decide +kernel)) (fun _ _ _ _ _ => (pg_name (i := 3) sc__law_few.nd rfl (by first | exact Or.inl rfl | exact Or.inr rfl))) (fun _ _ _ _ _ => (pdts_one (pdb_cmp (op_eqD hr.units) rop_eq (pd_call (ok__law_take T) rfl (hr.mono (by decide)) (by rfl) T.m__law_take T.F__law_take.kp T.b__law_take .nil defOk0 paE0 (pda_cons (pd_var (pv 0)) (pda_cons (pd_var (pv 2)) pda_nil)) rfl (hlen := (lenA_cons (lenA_cons lenA_nil)))) pd_int (nomark _)))) (fun _ _ _ _ _ => (pd_var (pv 3)))) pda_nil))))
theorem ok__law_mixed (T : Tx P K mg A) : FnOk P w K mg base (L2.CX P w) 2 A.f__law_mixed A.d__law_mixed ["_law_urn", "_law_pool"] (spD K A.ct 2 m__law_mixed) :=
  fn_D T.F__law_mixed sc__law_mixed fun cdv A1 outer s H E hr =>
  (psds_cons (psd_par rfl sc__law_mixed.nd rfl rfl (by decide) rfl rfl (pdm_own (pdn_list (by rfl) T.n_list (pda_cons (pd_var (pv 1)) pda_nil)) (pdm_own (pdn_lst pda_nil) pdm_nil)) rfl)
  (psds_cons (psd_for bx_passes rfl (pdi_rng1 (by rfl) T.n_range (pda_cons (pd_callB cr_len rcp_len (by rfl) T.n_len PySem.boot_len (pda_cons (pd_var (pv 1)) pda_nil)) pda_nil)) (pg_name (i := 4) sc__law_mixed.nd rfl (by first | exact Or.inl rfl | exact Or.inr rfl)) (psds_one (psd_appPop (by decide) (pv 3) (pv 2) (pd_lend (pd_call (ok__law_take T) rfl (hr.mono (by decide)) (by rfl) T.m__law_take T.F__law_take.kp T.b__law_take .nil defOk0 bx_pa (pda_cons (pd_var (pv 0)) (pda_cons (pd_callB cr_len rcp_len (by rfl) T.n_len PySem.boot_len (pda_cons (pd_var (pv 2)) pda_nil)) pda_nil)) rfl (hlen := (lenA_cons (lenA_cons lenA_nil))))))))
  (psds_one (psd_ret (pd_callTy call_tuple_of rcp_tuple (by rfl) T.n_tuple PyProof.Rows.boot_tuple (pda_cons (pd_var (pv 3)) pda_nil))))))
theorem ok__law_book (T : Tx P K mg A) : FnOk P w K mg base (L2.CX P w) 3 A.f__law_book A.d__law_book ["_law_urn", "_law_most_so"] (spD K A.ct 2 m__law_book) :=
  fn_D T.F__law_book sc__law_book fun cdv A1 outer s H E hr =>
  (psds_cons (psd_set sc__law_book.nd rfl (by first | exact Or.inl rfl | exact Or.inr rfl) (pd_callTy call_list_of rcp_list (by rfl) T.n_list PyProof.Rows.boot_list (pda_cons (pd_call (ok__law_mixed T) rfl (hr.mono (by decide)) (by rfl) T.m__law_mixed T.F__law_mixed.kp T.b__law_mixed .nil defOk0 bx_pa (pda_cons (pd_var (pv 0)) (pda_cons (pd_lst (pda_cons pd_str (pda_cons pd_str (pda_cons pd_str (pda_cons pd_str (pda_cons pd_str (pda_cons pd_str (pda_cons pd_str pda_nil)))))))) pda_nil)) rfl (hlen := (lenA_cons (lenA_cons lenA_nil)))) pda_nil)))
  (psds_cons (psd_par3 rfl sc__law_book.nd rfl rfl rfl (by decide) (by decide) (by decide) rfl rfl rfl (pdm_val (pd_callB cr_sortedX rcp_sorted (by rfl) T.n_sorted PyProof.Rows.boot_sorted (pda_cons (pd_lc (own := [("_law_own", 7)]) rfl sc__law_book.nd (by decide) (pdi_seq (pd_slice (pd_var (pv 2)) pdo_none (pdo_some (pd_op opr_add rop_add pd_int (pd_call (ok__law_take T) rfl (hr.mono (by decide)) (by rfl) T.m__law_take T.F__law_take.kp T.b__law_take .nil defOk0 bx_pa (pda_cons (pd_var (pv 0)) (pda_cons (pd_var (pv 1)) pda_nil)) rfl (hlen := (lenA_cons (lenA_cons lenA_nil)))))))) (blkOk_by (by show blkC ["_law_urn", "_law_most_so", "_law_pool", "_law_flats", "_law_pairs_so", "_law_style", "_law_k", "_law_own", "_law_far"] (defScope s__law_book) _ _ = true; decide +kernel)) (fun _ _ _ _ _ => (pg_name (i := 7) sc__law_book.nd rfl (by first | exact Or.inl rfl | exact Or.inr rfl))) (fun _ _ _ _ _ => pdts_nil) (fun _ _ _ _ _ => (pd_callTy cr_str rcp_str (by rfl) T.n_str PyProof.Rows.boot_str (pda_cons (pd_var (pv 7)) pda_nil)))) pda_nil)) (pdm_own (pdn_lst pda_nil) (pdm_val (pd_call (ok__law_take T) rfl (hr.mono (by decide)) (by rfl) T.m__law_take T.F__law_take.kp T.b__law_take .nil defOk0 bx_pa (pda_cons (pd_var (pv 0)) (pda_cons pd_int pda_nil)) rfl (hlen := (lenA_cons (lenA_cons lenA_nil)))) pdm_nil))) rfl)
  (psds_cons (psd_for bx_passes rfl (pdi_enum (by rfl) T.n_enumerate (pda_cons (pd_var (pv 3)) pda_nil)) (pg_tp rfl (pgs_cons (pg_name (i := 6) sc__law_book.nd rfl (by first | exact Or.inl rfl | exact Or.inr rfl)) (pgs_cons (pg_name (i := 7) sc__law_book.nd rfl (by first | exact Or.inl rfl | exact Or.inr rfl)) pgs_nil))) (psds_one (psd_for bx_passes rfl (pdi_seq (pd_slice (pd_var (pv 3)) (pdo_some (pd_op opr_add rop_add (pd_var (pv 6)) pd_int)) pdo_none)) (pg_name (i := 8) sc__law_book.nd rfl (by first | exact Or.inl rfl | exact Or.inr rfl)) (psds_one (psd_if (pdw_and (pdb_cmp (op_gt) rop_gt (pd_var (pv 5)) pd_int (nomark _)) (pdw_and1 (pdb_cmp (op_eqD hr.units) rop_eq (pd_call (ok__law_take T) rfl (hr.mono (by decide)) (by rfl) T.m__law_take T.F__law_take.kp T.b__law_take .nil defOk0 bx_pa (pda_cons (pd_var (pv 0)) (pda_cons pd_int pda_nil)) rfl (hlen := (lenA_cons (lenA_cons lenA_nil)))) pd_int (nomark _)))).b (psds_one (psd_om (pv 4) PySem.F.slot_list_append PySem.F.type_list_append mt_append rom_app (pda_cons (pd_if (pdb_cmp (op_eqD hr.units) rop_eq (pd_var (pv 5)) pd_int (nomark _)) (pd_tup (pda_cons (pd_var (pv 7)) (pda_cons (pd_var (pv 8)) pda_nil))) (pd_tup (pda_cons (pd_var (pv 8)) (pda_cons (pd_var (pv 7)) pda_nil)))) pda_nil))) psds_nil)))))
  (psds_one (psd_ret (pd_tup (pda_cons (pd_callTy call_tuple_of rcp_tuple (by rfl) T.n_tuple PyProof.Rows.boot_tuple (pda_cons (pd_var (pv 3)) pda_nil)) (pda_cons (pd_callTy call_tuple_of rcp_tuple (by rfl) T.n_tuple PyProof.Rows.boot_tuple (pda_cons (pd_var (pv 4)) pda_nil)) pda_nil))))))))
theorem ok__law_told (T : Tx P K mg A) : FnOk P w K mg base (L2.CX P w) 1 A.f__law_told A.d__law_told ["_law_book_here"] (spD K A.ct 1 m__law_told) :=
  fn_D T.F__law_told sc__law_told fun cdv A1 outer s H E hr =>
  (psds_cons (psd_setT (pd_var (pv 0)) (pg_tp rfl (pgs_cons (pg_name (i := 1) sc__law_told.nd rfl (by first | exact Or.inl rfl | exact Or.inr rfl)) (pgs_cons (pg_name (i := 2) sc__law_told.nd rfl (by first | exact Or.inl rfl | exact Or.inr rfl)) pgs_nil))))
  (psds_cons (psd_setN sc__law_told.nd rfl (by first | exact Or.inl rfl | exact Or.inr rfl) (pdn_dictP rfl (by rfl) T.n_dict (pda_cons (pd_lc (own := [("_law_own", 5)]) rfl sc__law_told.nd (by decide) (pdi_seq (pd_var (pv 1))) (blkOk_by (by show blkC ["_law_book_here", "_law_flats", "_law_pairs_so", "_law_table", "_law_turn", "_law_own", "_law_far", "_law_pair", "_law_bit"] (defScope s__law_told) _ _ = true; decide +kernel)) (fun _ _ _ _ _ => (pg_name (i := 5) sc__law_told.nd rfl (by first | exact Or.inl rfl | exact Or.inr rfl))) (fun _ _ _ _ _ => pdts_nil) (fun _ _ _ _ _ => (pd_tup (pda_cons (pd_var (pv 5)) (pda_cons (pd_lc (own := [("_law_pair", 7)]) rfl sc__law_told.nd (by decide) (pdi_seq (pd_var (pv 2))) (blkOk_by (by show blkC ["_law_book_here", "_law_flats", "_law_pairs_so", "_law_table", "_law_turn", "_law_own", "_law_far", "_law_pair", "_law_bit"] (compSc (defScope s__law_told) _) _ _ = true; decide +kernel)) (fun _ _ _ _ _ => (pg_name (i := 7) sc__law_told.nd rfl (by first | exact Or.inl rfl | exact Or.inr rfl))) (fun _ _ _ _ _ => (pdts_one (pdb_cmp (op_eqD hr.units) rop_eq (pd_ix (hu_of hr) (pd_var (pv 7)) pd_int) (pd_var (pv 5)) (nomark _)))) (fun _ _ _ _ _ => (pd_ix (hu_of hr) (pd_var (pv 7)) pd_int))) pda_nil))))) pda_nil)))
  (psds_cons (psd_for bx_passes rfl (pdi_rng1 (by rfl) T.n_range (pda_cons (pd_callB cr_len rcp_len (by rfl) T.n_len PySem.boot_len (pda_cons (pd_var (pv 1)) pda_nil)) pda_nil)) (pg_name (i := 4) sc__law_told.nd rfl (by first | exact Or.inl rfl | exact Or.inr rfl)) (psds_one (psd_for bx_passes rfl (pdi_seq (pd_var (pv 1))) (pg_name (i := 5) sc__law_told.nd rfl (by first | exact Or.inl rfl | exact Or.inr rfl)) (psds_one (psd_for bx_passes rfl (pdi_seq (pd_lendG (pd_callTy call_list_of rcp_list (by rfl) T.n_list PyProof.Rows.boot_list (pda_cons (pd_ix (hu_of hr) (pd_var (pv 3)) (pd_var (pv 5))) pda_nil)))) (pg_name (i := 6) sc__law_told.nd rfl (by first | exact Or.inl rfl | exact Or.inr rfl)) (psds_one (psd_put (hu_of hr) (pv 3) (pd_var (pv 5)) (pd_lendG (pd_op opr_add rop_add (pd_ix (hu_of hr) (pd_var (pv 3)) (pd_var (pv 5))) (pd_lc (own := [("_law_bit", 8)]) rfl sc__law_told.nd (by decide) (pdi_seq (pd_ix (hu_of hr) (pd_var (pv 3)) (pd_var (pv 6)))) (blkOk_by (by show blkC ["_law_book_here", "_law_flats", "_law_pairs_so", "_law_table", "_law_turn", "_law_own", "_law_far", "_law_pair", "_law_bit"] (defScope s__law_told) _ _ = true; decide +kernel)) (fun _ _ _ _ _ => (pg_name (i := 8) sc__law_told.nd rfl (by first | exact Or.inl rfl | exact Or.inr rfl))) (fun _ _ _ _ _ => (pdts_one (pdb_cmp (opr_notIn (u65 hr)) rop_notIn (pd_var (pv 8)) (pd_ix (hu_of hr) (pd_var (pv 3)) (pd_var (pv 5))) rfl))) (fun _ _ _ _ _ => (pd_var (pv 8)))))))))))))
  (psds_cons (psd_setN sc__law_told.nd rfl (by first | exact Or.inl rfl | exact Or.inr rfl) (pdn_lendG (pdn_dictP rfl (by rfl) T.n_dict (pda_cons (pd_lc (own := [("_law_own", 5)]) rfl sc__law_told.nd (by decide) (pdi_seq (pd_var (pv 1))) (blkOk_by (by show blkC ["_law_book_here", "_law_flats", "_law_pairs_so", "_law_table", "_law_turn", "_law_own", "_law_far", "_law_pair", "_law_bit"] (defScope s__law_told) _ _ = true; decide +kernel)) (fun _ _ _ _ _ => (pg_name (i := 5) sc__law_told.nd rfl (by first | exact Or.inl rfl | exact Or.inr rfl))) (fun _ _ _ _ _ => pdts_nil) (fun _ _ _ _ _ => (pd_tup (pda_cons (pd_var (pv 5)) (pda_cons (pd_lc (own := [("_law_far", 6)]) rfl sc__law_told.nd (by decide) (pdi_seq (pd_var (pv 1))) (blkOk_by (by show blkC ["_law_book_here", "_law_flats", "_law_pairs_so", "_law_table", "_law_turn", "_law_own", "_law_far", "_law_pair", "_law_bit"] (compSc (defScope s__law_told) _) _ _ = true; decide +kernel)) (fun _ _ _ _ _ => (pg_name (i := 6) sc__law_told.nd rfl (by first | exact Or.inl rfl | exact Or.inr rfl))) (fun _ _ _ _ _ => (pdts_one (pdb_cmp (opr_in (u65 hr)) rop_in (pd_var (pv 6)) (pd_ix (hu_of hr) (pd_var (pv 3)) (pd_var (pv 5))) rfl))) (fun _ _ _ _ _ => (pd_var (pv 6)))) pda_nil))))) pda_nil))))
  (psds_cons (psd_put (hu_of hr) (pv 3) pd_str (pd_callTy call_list_of rcp_list (by rfl) T.n_list PyProof.Rows.boot_list (pda_cons (pd_var (pv 1)) pda_nil)))
  (psds_frzI (is := [3]) (psds_one (psd_ret (pd_var (pv 3))))))))))
theorem ok__law_heard (T : Tx P K mg A) : FnOk P w K mg base (L2.CX P w) 4 A.f__law_heard A.d__law_heard ["_law_way", "_law_keyring", "_law_own", "_law_far"] (spD K A.ct 4 m__law_heard) :=
  fn_D T.F__law_heard sc__law_heard fun cdv A1 outer s H E hr =>
  (psds_cons (psd_setT (pd_tup (pda_cons pd_non (pda_cons pd_non pda_nil))) (pg_tp rfl (pgs_cons (pg_name (i := 4) sc__law_heard.nd rfl (by first | exact Or.inl rfl | exact Or.inr rfl)) (pgs_cons (pg_name (i := 5) sc__law_heard.nd rfl (by first | exact Or.inl rfl | exact Or.inr rfl)) pgs_nil))))
  (psds_cons (psd_try (cs := [.ref A.C_BadField, .ref A.C_NoName, .ref A.C_NoPlace, .ref A.C_Ringed]) rfl rfl rfl sc__law_heard.nd (i := 6) rfl rfl (iy := 4) rfl (by first | exact Or.inl rfl | exact Or.inr rfl) (by first | exact .inl rfl | exact .inr rfl) (tst_tup (.cons ⟨rfl, by decide, .inl T.m_BadField⟩ rfl (.cons ⟨rfl, by decide, .inl T.m_NoName⟩ rfl (.cons ⟨rfl, by decide, .inl T.m_NoPlace⟩ rfl (.cons ⟨rfl, by decide, .inl T.m_Ringed⟩ rfl .nil)))) (Nat.le_of_ble_eq_true rfl)) bx_takes T.htst_BadField_NoName_NoPlace_Ringed (fun E tn xe tk po => (psds_one (psd_if (pdb_cmp (op_eqD hr.units) rop_eq (pd_var (pv 0)) pd_int (nomark _)) (psds_one (psd_set sc__law_heard.nd rfl (by first | exact Or.inl rfl | exact Or.inr rfl) (pd_lenOwn (c := 4) (by rfl) T.n_len (pd_make (c := 4) T.mk_Keys (ok_Keys_D_initD_ T) (hr.mono (by decide)) (by rfl) T.m_Keys T.b_Keys_D_initD_ .nil defOk0 (paE_tr tk) (pda_cons (pd_var (pv 2)) (pda_cons (pd_var (pv 3)) pda_nil)) (lenA_cons (lenA_cons lenA_nil)) rfl) (ok_Keys_D_lenD_ T) (hr.mono (by decide)) T.b_Keys_D_lenD_ (paE_tr tk) T.at_Keys_D_lenD_ T.fn_Keys_D_lenD_))) (psds_one (psd_set sc__law_heard.nd rfl (by first | exact Or.inl rfl | exact Or.inr rfl) (pd_if (pdb_cmp (op_eqD hr.units) rop_eq (pd_var (pv 0)) pd_int (nomark _)) (pd_meth (c := 4) (pd_var (pv 1)) T.cl_Keys T.me_Keys_tells (ok_Keys_tells T) (hr.mono (by decide)) T.b_Keys_tells .nil defOk0 (paE_tr tk) (pda_cons (pd_var (pv 2)) (pda_cons (pd_var (pv 3)) pda_nil)) (lenA_cons (lenA_cons lenA_nil)) rfl) (pd_meth (c := 4) (pd_var (pv 1)) T.cl_Keys T.me_Keys_told (ok_Keys_told T) (hr.mono (by decide)) T.b_Keys_told .nil defOk0 (paE_tr tk) (pda_cons (pd_var (pv 2)) pda_nil) (lenA_cons lenA_nil) rfl))))))))
  (psds_cons (psd_if (pdb_cmp (opr_is) rop_is (pd_var (pv 4)) pd_non (nomark _)) (psds_one (psd_ret (pd_var (pv 5)))) psds_nil)
  (psds_one (psd_ret (pd_if (pdw_and (pdb_truth (pd_isi1 (by rfl) T.n_isinstance (pd_var (pv 4)) (pe_glob (v := .ref A.C_NoName) (by rfl) T.m_NoName rfl) (.own A.C_NoName) T.is_tb_NoName)) (pdw_and1 (pdb_truth (pd_isi1 (by rfl) T.n_isinstance (pd_var (pv 4)) (pe_bltn (v := .ty "LookupError") (by rfl) T.n_LookupError Dl.boot_LookupError (by rfl)) (.ty "LookupError") T.is_tb_LookupError)))).b (pd_tup (pda_cons (pd_xf T.xf_name (pd_var (pv 4))) pda_nil)) pd_str))))))
theorem ok__law_by_hand_right (T : Tx P K mg A) : FnOk P w K mg base (L2.CX P w) 7 A.f__law_by_hand_right A.d__law_by_hand_right [] (spD K A.ct 0 m__law_by_hand_right) :=
  fn_D T.F__law_by_hand_right sc__law_by_hand_right fun cdv A1 outer s H E hr =>
  (psds_cons (psd_set sc__law_by_hand_right.nd rfl (by first | exact Or.inl rfl | exact Or.inr rfl) (pd_make (c := 4) T.mk_Keys (ok_Keys_D_initD_ T) (hr.mono (by decide)) (by rfl) T.m_Keys T.b_Keys_D_initD_ .nil defOk0 bx_pa (pda_cons (pd_tup (pda_cons pd_str (pda_cons pd_str (pda_cons pd_str (pda_cons pd_str pda_nil))))) (pda_cons (pd_tup (pda_cons (pd_tup (pda_cons pd_str (pda_cons pd_str pda_nil))) (pda_cons (pd_tup (pda_cons pd_str (pda_cons pd_str pda_nil))) pda_nil))) pda_nil)) (lenA_cons (lenA_cons lenA_nil)) rfl))
  (psds_cons (psd_set sc__law_by_hand_right.nd rfl (by first | exact Or.inl rfl | exact Or.inr rfl) (pd_lst (pda_cons (pd_prop (c := 4) (pd_var (pv 0)) T.cl_Keys T.pr_Keys_names (ok_Keys_names T) (hr.mono (by decide)) T.b_Keys_names) (pda_cons (pd_prop (c := 4) (pd_var (pv 0)) T.cl_Keys T.pr_Keys_pairs (ok_Keys_pairs T) (hr.mono (by decide)) T.b_Keys_pairs) (pda_cons (pd_lenOwn (c := 4) (by rfl) T.n_len (pd_var (pv 0)) (ok_Keys_D_lenD_ T) (hr.mono (by decide)) T.b_Keys_D_lenD_ bx_pa T.at_Keys_D_lenD_ T.fn_Keys_D_lenD_) (pda_cons (pd_ofC (pc_inOwn (c := 4) (neg := false) rfl pd_str (pd_var (pv 0)) (ok_Keys_D_containsD_ T) (hr.mono (by decide)) T.b_Keys_D_containsD_ bx_pa T.at_Keys_D_containsD_ T.fn_Keys_D_containsD_) rfl) (pda_cons (pd_ofC (pc_inOwn (c := 4) (neg := false) rfl pd_str (pd_var (pv 0)) (ok_Keys_D_containsD_ T) (hr.mono (by decide)) T.b_Keys_D_containsD_ bx_pa T.at_Keys_D_containsD_ T.fn_Keys_D_containsD_) rfl) (pda_cons (pd_ofC (pc_inOwn (c := 4) (neg := false) rfl pd_str (pd_var (pv 0)) (ok_Keys_D_containsD_ T) (hr.mono (by decide)) T.b_Keys_D_containsD_ bx_pa T.at_Keys_D_containsD_ T.fn_Keys_D_containsD_) rfl) pda_nil))))))))
  (psds_cons (psd_set sc__law_by_hand_right.nd rfl (by first | exact Or.inl rfl | exact Or.inr rfl) (pd_lst (pda_cons (pd_tup (pda_cons pd_str (pda_cons pd_str (pda_cons pd_str pda_nil)))) (pda_cons (pd_tup (pda_cons (pd_tup (pda_cons pd_str (pda_cons pd_str pda_nil))) (pda_cons (pd_tup (pda_cons pd_str (pda_cons pd_str pda_nil))) (pda_cons (pd_tup (pda_cons pd_str (pda_cons pd_str pda_nil))) pda_nil)))) (pda_cons pd_int (pda_cons pd_bl (pda_cons pd_bl (pda_cons pd_bl pda_nil))))))))
  (psds_cons (psd_set sc__law_by_hand_right.nd rfl (by first | exact Or.inl rfl | exact Or.inr rfl) (pd_op opr_add rop_add (pd_var (pv 1)) (pd_lst (pda_cons (pd_meth (c := 4) (pd_var (pv 0)) T.cl_Keys T.me_Keys_told (ok_Keys_told T) (hr.mono (by decide)) T.b_Keys_told .nil defOk0 bx_pa (pda_cons pd_str pda_nil) (lenA_cons lenA_nil) rfl) (pda_cons (pd_meth (c := 4) (pd_var (pv 0)) T.cl_Keys T.me_Keys_told (ok_Keys_told T) (hr.mono (by decide)) T.b_Keys_told .nil defOk0 bx_pa (pda_cons pd_str pda_nil) (lenA_cons lenA_nil) rfl) (pda_cons (pd_meth (c := 4) (pd_var (pv 0)) T.cl_Keys T.me_Keys_tells (ok_Keys_tells T) (hr.mono (by decide)) T.b_Keys_tells .nil defOk0 bx_pa (pda_cons pd_str (pda_cons pd_str pda_nil)) (lenA_cons (lenA_cons lenA_nil)) rfl) (pda_cons (pd_meth (c := 4) (pd_var (pv 0)) T.cl_Keys T.me_Keys_tells (ok_Keys_tells T) (hr.mono (by decide)) T.b_Keys_tells .nil defOk0 bx_pa (pda_cons pd_str (pda_cons pd_str pda_nil)) (lenA_cons (lenA_cons lenA_nil)) rfl) pda_nil)))))))
  (psds_cons (psd_set sc__law_by_hand_right.nd rfl (by first | exact Or.inl rfl | exact Or.inr rfl) (pd_op opr_add rop_add (pd_var (pv 2)) (pd_lst (pda_cons (pd_tup (pda_cons pd_str (pda_cons pd_str pda_nil))) (pda_cons (pd_tup (pda_cons pd_str (pda_cons pd_str (pda_cons pd_str pda_nil)))) (pda_cons pd_bl (pda_cons pd_bl pda_nil)))))))
  (psds_cons (psd_set sc__law_by_hand_right.nd rfl (by first | exact Or.inl rfl | exact Or.inr rfl) (pd_op opr_add rop_add (pd_var (pv 1)) (pd_lst (pda_cons (pd_call (ok__law_heard T) rfl (hr.mono (by decide)) (by rfl) T.m__law_heard T.F__law_heard.kp T.b__law_heard .nil defOk0 bx_pa (pda_cons pd_int (pda_cons pd_non (pda_cons (pd_tup (pda_cons pd_str (pda_cons pd_str pda_nil))) (pda_cons (pd_tup (pda_cons (pd_tup (pda_cons pd_str (pda_cons pd_str pda_nil))) (pda_cons (pd_tup (pda_cons pd_str (pda_cons pd_str pda_nil))) (pda_cons (pd_tup (pda_cons pd_str (pda_cons pd_str pda_nil))) pda_nil)))) pda_nil)))) rfl (hlen := (lenA_cons (lenA_cons (lenA_cons (lenA_cons lenA_nil)))))) pda_nil))))
  (psds_cons (psd_set sc__law_by_hand_right.nd rfl (by first | exact Or.inl rfl | exact Or.inr rfl) (pd_op opr_add rop_add (pd_var (pv 1)) (pd_lst (pda_cons (pd_call (ok__law_heard T) rfl (hr.mono (by decide)) (by rfl) T.m__law_heard T.F__law_heard.kp T.b__law_heard .nil defOk0 bx_pa (pda_cons pd_int (pda_cons pd_non (pda_cons (pd_tup (pda_cons pd_str (pda_cons pd_str pda_nil))) (pda_cons (pd_tup (pda_cons (pd_tup (pda_cons pd_str (pda_cons pd_str pda_nil))) pda_nil)) pda_nil)))) rfl (hlen := (lenA_cons (lenA_cons (lenA_cons (lenA_cons lenA_nil)))))) (pda_cons (pd_call (ok__law_heard T) rfl (hr.mono (by decide)) (by rfl) T.m__law_heard T.F__law_heard.kp T.b__law_heard .nil defOk0 bx_pa (pda_cons pd_int (pda_cons pd_non (pda_cons (pd_tup (pda_cons pd_str pda_nil)) (pda_cons (pd_tup (pda_cons (pd_tup (pda_cons pd_str (pda_cons pd_str pda_nil))) (pda_cons (pd_tup (pda_cons pd_str (pda_cons pd_str pda_nil))) pda_nil))) pda_nil)))) rfl (hlen := (lenA_cons (lenA_cons (lenA_cons (lenA_cons lenA_nil)))))) pda_nil)))))
  (psds_cons (psd_set sc__law_by_hand_right.nd rfl (by first | exact Or.inl rfl | exact Or.inr rfl) (pd_op opr_add rop_add (pd_var (pv 1)) (pd_lst (pda_cons (pd_call (ok__law_heard T) rfl (hr.mono (by decide)) (by rfl) T.m__law_heard T.F__law_heard.kp T.b__law_heard .nil defOk0 bx_pa (pda_cons pd_int (pda_cons (pd_var (pv 0)) (pda_cons pd_str (pda_cons pd_str pda_nil)))) rfl (hlen := (lenA_cons (lenA_cons (lenA_cons (lenA_cons lenA_nil)))))) (pda_cons (pd_call (ok__law_heard T) rfl (hr.mono (by decide)) (by rfl) T.m__law_heard T.F__law_heard.kp T.b__law_heard .nil defOk0 bx_pa (pda_cons pd_int (pda_cons (pd_var (pv 0)) (pda_cons pd_str (pda_cons pd_str pda_nil)))) rfl (hlen := (lenA_cons (lenA_cons (lenA_cons (lenA_cons lenA_nil)))))) (pda_cons (pd_call (ok__law_heard T) rfl (hr.mono (by decide)) (by rfl) T.m__law_heard T.F__law_heard.kp T.b__law_heard .nil defOk0 bx_pa (pda_cons pd_int (pda_cons (pd_var (pv 0)) (pda_cons pd_str (pda_cons pd_str pda_nil)))) rfl (hlen := (lenA_cons (lenA_cons (lenA_cons (lenA_cons lenA_nil)))))) pda_nil))))))
  (psds_cons (psd_set sc__law_by_hand_right.nd rfl (by first | exact Or.inl rfl | exact Or.inr rfl) (pd_op opr_add rop_add (pd_var (pv 2)) (pd_lst (pda_cons (pd_tup (pda_cons pd_str pda_nil)) (pda_cons (pd_tup (pda_cons pd_str pda_nil)) (pda_cons (pd_tup (pda_cons pd_str pda_nil)) (pda_cons (pd_tup (pda_cons pd_str pda_nil)) (pda_cons (pd_tup (pda_cons pd_str pda_nil)) (pda_cons (pd_tup (pda_cons pd_str pda_nil)) pda_nil)))))))))
  (psds_cons (psd_set sc__law_by_hand_right.nd rfl (by first | exact Or.inl rfl | exact Or.inr rfl) (pd_make (c := 4) T.mk_Keys (ok_Keys_D_initD_ T) (hr.mono (by decide)) (by rfl) T.m_Keys T.bd_Keys_D_initD_.choose_spec.2 T.bd_Keys_D_initD_.choose_spec.1 T.dd_Keys_D_initD_ bx_pa (pda_cons (pd_tup pda_nil) pda_nil) (lenA_cons lenA_nil) rfl))
  (psds_cons (psd_set sc__law_by_hand_right.nd rfl (by first | exact Or.inl rfl | exact Or.inr rfl) (pd_op opr_add rop_add (pd_var (pv 1)) (pd_lst (pda_cons (pd_prop (c := 4) (pd_var (pv 3)) T.cl_Keys T.pr_Keys_names (ok_Keys_names T) (hr.mono (by decide)) T.b_Keys_names) (pda_cons (pd_prop (c := 4) (pd_var (pv 3)) T.cl_Keys T.pr_Keys_pairs (ok_Keys_pairs T) (hr.mono (by decide)) T.b_Keys_pairs) (pda_cons (pd_lenOwn (c := 4) (by rfl) T.n_len (pd_var (pv 3)) (ok_Keys_D_lenD_ T) (hr.mono (by decide)) T.b_Keys_D_lenD_ bx_pa T.at_Keys_D_lenD_ T.fn_Keys_D_lenD_) (pda_cons (pd_meth (c := 4) (pd_var (pv 3)) T.cl_Keys T.me_Keys_told (ok_Keys_told T) (hr.mono (by decide)) T.b_Keys_told .nil defOk0 bx_pa (pda_cons pd_str pda_nil) (lenA_cons lenA_nil) rfl) (pda_cons (pd_ofC (pc_cmpOwn (op := .Eq) (c := 4) (tb := tbo_Keys) (fun _ _ => rfl) (pd_var (pv 3)) (pd_make (c := 4) T.mk_Keys (ok_Keys_D_initD_ T) (hr.mono (by decide)) (by rfl) T.m_Keys T.b_Keys_D_initD_ .nil defOk0 bx_pa (pda_cons (pd_lst pda_nil) (pda_cons (pd_lst pda_nil) pda_nil)) (lenA_cons (lenA_cons lenA_nil)) rfl) (ok_Keys_D_eqD_ T) (hr.mono (by decide)) T.b_Keys_D_eqD_ bx_pa T.q_Keys_D_eqD_ T.at_Keys_D_eqD_ T.fn_Keys_D_eqD_) (nomark _)) (pda_cons (pd_ofC (pc_cmpOwn (op := .Eq) (c := 4) (tb := tbo_Keys) (fun _ _ => rfl) (pd_var (pv 3)) (pd_tup pda_nil) (ok_Keys_D_eqD_ T) (hr.mono (by decide)) T.b_Keys_D_eqD_ bx_pa T.q_Keys_D_eqD_ T.at_Keys_D_eqD_ T.fn_Keys_D_eqD_) (nomark _)) (pda_cons (pd_ofC (pc_cmpOwn (op := .Eq) (c := 4) (tb := tbo_Keys) (fun _ _ => rfl) (pd_var (pv 0)) (pd_var (pv 3)) (ok_Keys_D_eqD_ T) (hr.mono (by decide)) T.b_Keys_D_eqD_ bx_pa T.q_Keys_D_eqD_ T.at_Keys_D_eqD_ T.fn_Keys_D_eqD_) (nomark _)) pda_nil))))))))))
  (psds_one (psd_ret (pd_call (ok__law_same T) rfl (hr.mono (by decide)) (by rfl) T.m__law_same T.F__law_same.kp T.b__law_same .nil defOk0 bx_pa (pda_cons (pd_var (pv 1)) (pda_cons (pd_op opr_add rop_add (pd_var (pv 2)) (pd_lst (pda_cons (pd_tup pda_nil) (pda_cons (pd_tup pda_nil) (pda_cons pd_int (pda_cons (pd_tup pda_nil) (pda_cons pd_bl (pda_cons pd_bl (pda_cons pd_bl pda_nil))))))))) pda_nil)) rfl (hlen := (lenA_cons (lenA_cons lenA_nil)))))))))))))))))
theorem ok__law_right (T : Tx P K mg A) : FnOk P w K mg base (L2.CX P w) 8 A.f__law_right A.d__law_right ["_law_urn"] (spD K A.ct 1 m__law_right) :=
  fn_D T.F__law_right sc__law_right fun cdv A1 outer s H E hr =>
  (psds_cons (psd_if (pdb_not (pdb_truth (pd_call0 (ok__law_by_hand_right T) (hr.mono (by decide)) (by rfl) T.m__law_by_hand_right T.F__law_by_hand_right.kp T.b__law_by_hand_right bx_pa))) (psds_one (psd_ret pd_bl)) psds_nil)
  (psds_cons (psd_for bx_passes rfl (pdi_rng1 (by rfl) T.n_range (pda_cons pd_int pda_nil)) (pg_name (i := 1) sc__law_right.nd rfl (by first | exact Or.inl rfl | exact Or.inr rfl)) (psds_cons (psd_set sc__law_right.nd rfl (by first | exact Or.inl rfl | exact Or.inr rfl) (pd_call (ok__law_book T) rfl (hr.mono (by decide)) (by rfl) T.m__law_book T.F__law_book.kp T.b__law_book .nil defOk0 bx_pa (pda_cons (pd_var (pv 0)) (pda_cons pd_int pda_nil)) rfl (hlen := (lenA_cons (lenA_cons lenA_nil)))))
  (psds_cons (psd_setT (pd_tup (pda_cons (pd_ix (hu_of hr) (pd_var (pv 2)) pd_int) (pda_cons (pd_call (ok__law_told T) rfl (hr.mono (by decide)) (by rfl) T.m__law_told T.F__law_told.kp T.b__law_told .nil defOk0 bx_pa (pda_cons (pd_var (pv 2)) pda_nil) rfl (hlen := (lenA_cons lenA_nil))) pda_nil))) (pg_tp rfl (pgs_cons (pg_name (i := 3) sc__law_right.nd rfl (by first | exact Or.inl rfl | exact Or.inr rfl)) (pgs_cons (pg_name (i := 4) sc__law_right.nd rfl (by first | exact Or.inl rfl | exact Or.inr rfl)) pgs_nil))))
  (psds_cons (psd_par rfl sc__law_right.nd rfl rfl (by decide) rfl rfl (pdm_val (pd_call (ok__law_mixed T) rfl (hr.mono (by decide)) (by rfl) T.m__law_mixed T.F__law_mixed.kp T.b__law_mixed .nil defOk0 bx_pa (pda_cons (pd_var (pv 0)) (pda_cons (pd_op opr_add rop_add (pd_callTy call_list_of rcp_list (by rfl) T.n_list PyProof.Rows.boot_list (pda_cons (pd_var (pv 3)) pda_nil)) (pd_callTy call_list_of rcp_list (by rfl) T.n_list PyProof.Rows.boot_list (pda_cons (pd_call (ok__law_few T) rfl (hr.mono (by decide)) (by rfl) T.m__law_few T.F__law_few.kp T.b__law_few .nil defOk0 bx_pa (pda_cons (pd_var (pv 0)) (pda_cons (pd_var (pv 3)) (pda_cons pd_int pda_nil))) rfl (hlen := (lenA_cons (lenA_cons (lenA_cons lenA_nil))))) pda_nil))) pda_nil)) rfl (hlen := (lenA_cons (lenA_cons lenA_nil)))) (pdm_val (pd_lst pda_nil) pdm_nil)) rfl)
  (psds_cons (psd_set sc__law_right.nd rfl (by first | exact Or.inl rfl | exact Or.inr rfl) (pd_make (c := 4) T.mk_Keys (ok_Keys_D_initD_ T) (hr.mono (by decide)) (by rfl) T.m_Keys T.b_Keys_D_initD_ .nil defOk0 bx_pa (pda_cons (pd_var (pv 5)) (pda_cons (pd_call (ok__law_mixed T) rfl (hr.mono (by decide)) (by rfl) T.m__law_mixed T.F__law_mixed.kp T.b__law_mixed .nil defOk0 bx_pa (pda_cons (pd_var (pv 0)) (pda_cons (pd_ix (hu_of hr) (pd_var (pv 2)) pd_int) pda_nil)) rfl (hlen := (lenA_cons (lenA_cons lenA_nil)))) pda_nil)) (lenA_cons (lenA_cons lenA_nil)) rfl))
  (psds_cons (psd_for bx_passes rfl (pdi_seq (pd_var (pv 3))) (pg_name (i := 8) sc__law_right.nd rfl (by first | exact Or.inl rfl | exact Or.inr rfl)) (psds_one (psd_set sc__law_right.nd rfl (by first | exact Or.inl rfl | exact Or.inr rfl) (pd_op opr_add rop_add (pd_var (pv 6)) (pd_lc (own := [("_law_far", 15)]) rfl sc__law_right.nd (by decide) (pdi_seq (pd_ix (hu_of hr) (pd_var (pv 4)) (pd_var (pv 8)))) (blkOk_by (by show blkC ["_law_urn", "_law_turn", "_law_book_here", "_law_flats", "_law_told_so", "_law_pool", "_law_goal", "_law_keyring", "_law_own", "_law_got", "_law_soft", "_law_far_so", "_law_kin", "_law_plain_so", "_law_wide", "_law_far"] (defScope s__law_right) _ _ = true; decide +kernel)) (fun _ _ _ _ _ => (pg_name (i := 15) sc__law_right.nd rfl (by first | exact Or.inl rfl | exact Or.inr rfl))) (fun _ _ _ _ _ => pdts_nil) (fun _ _ _ _ _ => (pd_tup (pda_cons (pd_var (pv 8)) (pda_cons (pd_var (pv 15)) pda_nil)))))))))
  (psds_cons (psd_set sc__law_right.nd rfl (by first | exact Or.inl rfl | exact Or.inr rfl) (pd_lst (pda_cons (pd_prop (c := 4) (pd_var (pv 7)) T.cl_Keys T.pr_Keys_names (ok_Keys_names T) (hr.mono (by decide)) T.b_Keys_names) (pda_cons (pd_prop (c := 4) (pd_var (pv 7)) T.cl_Keys T.pr_Keys_pairs (ok_Keys_pairs T) (hr.mono (by decide)) T.b_Keys_pairs) (pda_cons (pd_lenOwn (c := 4) (by rfl) T.n_len (pd_var (pv 7)) (ok_Keys_D_lenD_ T) (hr.mono (by decide)) T.b_Keys_D_lenD_ bx_pa T.at_Keys_D_lenD_ T.fn_Keys_D_lenD_) (pda_cons (pd_lc (own := [("_law_own", 8)]) rfl sc__law_right.nd (by decide) (pdi_seq (pd_var (pv 3))) (blkOk_by (by show blkC ["_law_urn", "_law_turn", "_law_book_here", "_law_flats", "_law_told_so", "_law_pool", "_law_goal", "_law_keyring", "_law_own", "_law_got", "_law_soft", "_law_far_so", "_law_kin", "_law_plain_so", "_law_wide", "_law_far"] (defScope s__law_right) _ _ = true; decide +kernel)) (fun _ _ _ _ _ => (pg_name (i := 8) sc__law_right.nd rfl (by first | exact Or.inl rfl | exact Or.inr rfl))) (fun _ _ _ _ _ => pdts_nil) (fun _ _ _ _ _ => (pd_methKw0 (c := 4) (is := [0]) (pd_var (pv 7)) T.cl_Keys T.me_Keys_told (ok_Keys_told T) (hr.mono (by decide)) T.kb_Keys_told__0_name paE0 (pdk_cons (pd_var (pv 8)) pdk_nil) (lenA_cons lenA_nil) rfl))) (pda_cons (pd_meth (c := 4) (pd_var (pv 7)) T.cl_Keys T.me_Keys_told (ok_Keys_told T) (hr.mono (by decide)) T.b_Keys_told .nil defOk0 bx_pa (pda_cons pd_str pda_nil) (lenA_cons lenA_nil) rfl) pda_nil)))))))
  (psds_cons (psd_if (pdb_not (pdb_truth (pd_call (ok__law_same T) rfl (hr.mono (by decide)) (by rfl) T.m__law_same T.F__law_same.kp T.b__law_same .nil defOk0 bx_pa (pda_cons (pd_var (pv 9)) (pda_cons (pd_lst (pda_cons (pd_var (pv 3)) (pda_cons (pd_callTy call_tuple_of rcp_tuple (by rfl) T.n_tuple PyProof.Rows.boot_tuple (pda_cons (pd_var (pv 6)) pda_nil)) (pda_cons (pd_callB cr_len rcp_len (by rfl) T.n_len PySem.boot_len (pda_cons (pd_var (pv 3)) pda_nil)) (pda_cons (pd_lc (own := [("_law_own", 8)]) rfl sc__law_right.nd (by decide) (pdi_seq (pd_var (pv 3))) (blkOk_by (by show blkC ["_law_urn", "_law_turn", "_law_book_here", "_law_flats", "_law_told_so", "_law_pool", "_law_goal", "_law_keyring", "_law_own", "_law_got", "_law_soft", "_law_far_so", "_law_kin", "_law_plain_so", "_law_wide", "_law_far"] (defScope s__law_right) _ _ = true; decide +kernel)) (fun _ _ _ _ _ => (pg_name (i := 8) sc__law_right.nd rfl (by first | exact Or.inl rfl | exact Or.inr rfl))) (fun _ _ _ _ _ => pdts_nil) (fun _ _ _ _ _ => (pd_callTy call_tuple_of rcp_tuple (by rfl) T.n_tuple PyProof.Rows.boot_tuple (pda_cons (pd_ix (hu_of hr) (pd_var (pv 4)) (pd_var (pv 8))) pda_nil)))) (pda_cons (pd_var (pv 3)) pda_nil)))))) pda_nil)) rfl (hlen := (lenA_cons (lenA_cons lenA_nil)))))) (psds_one (psd_ret pd_bl)) psds_nil)
  (psds_cons (psd_for bx_passes rfl (pdi_seq (pd_op opr_add rop_add (pd_callTy call_list_of rcp_list (by rfl) T.n_list PyProof.Rows.boot_list (pda_cons (pd_var (pv 3)) pda_nil)) (pd_lst (pda_cons pd_str pda_nil)))) (pg_name (i := 8) sc__law_right.nd rfl (by first | exact Or.inl rfl | exact Or.inr rfl)) (psds_cons (psd_setLc (i := 9) (own := [("_law_far", 15)]) rfl sc__law_right.nd rfl rfl (sw_true rfl rfl rfl (by decide +kernel)) (by decide) (pdi_seq (pd_op opr_add rop_add (pd_callTy call_list_of rcp_list (by rfl) T.n_list PyProof.Rows.boot_list (pda_cons (pd_var (pv 3)) pda_nil)) (pd_lst (pda_cons pd_str pda_nil)))) (blkOk_by (by show blkC ["_law_urn", "_law_turn", "_law_book_here", "_law_flats", "_law_told_so", "_law_pool", "_law_goal", "_law_keyring", "_law_own", "_law_got", "_law_soft", "_law_far_so", "_law_kin", "_law_plain_so", "_law_wide", "_law_far"] (defScope s__law_right) _ _ = true; decide +kernel)) (fun _ _ _ _ _ => (pg_name (i := 15) sc__law_right.nd rfl (by first | exact Or.inl rfl | exact Or.inr rfl))) (fun _ _ _ _ _ => pdts_nil) (fun _ _ _ _ _ => (pd_methKw0 (c := 4) (is := [0, 1]) (pd_var (pv 7)) T.cl_Keys T.me_Keys_tells (ok_Keys_tells T) (hr.mono (by decide)) T.kb_Keys_tells__0_one_other paE0 (pdk_cons (pd_var (pv 8)) (pdk_cons (pd_var (pv 15)) pdk_nil)) (lenA_cons (lenA_cons lenA_nil)) rfl)))
  (psds_one (psd_if (pdb_not (pdb_truth (pd_call (ok__law_same T) rfl (hr.mono (by decide)) (by rfl) T.m__law_same T.F__law_same.kp T.b__law_same .nil defOk0 bx_pa (pda_cons (pd_var (pv 9)) (pda_cons (pd_op opr_add rop_add (pd_lc (own := [("_law_far", 15)]) rfl sc__law_right.nd (by decide) (pdi_seq (pd_var (pv 3))) (blkOk_by (by show blkC ["_law_urn", "_law_turn", "_law_book_here", "_law_flats", "_law_told_so", "_law_pool", "_law_goal", "_law_keyring", "_law_own", "_law_got", "_law_soft", "_law_far_so", "_law_kin", "_law_plain_so", "_law_wide", "_law_far"] (defScope s__law_right) _ _ = true; decide +kernel)) (fun _ _ _ _ _ => (pg_name (i := 15) sc__law_right.nd rfl (by first | exact Or.inl rfl | exact Or.inr rfl))) (fun _ _ _ _ _ => pdts_nil) (fun _ _ _ _ _ => (pd_cmp (opr_in (u65 hr)) rop_in (pd_var (pv 15)) (pd_ix (hu_of hr) (pd_var (pv 4)) (pd_var (pv 8))) rfl))) (pd_lst (pda_cons pd_bl pda_nil))) pda_nil)) rfl (hlen := (lenA_cons (lenA_cons lenA_nil)))))) (psds_one (psd_ret pd_bl)) psds_nil))))
  (psds_cons (psd_par rfl sc__law_right.nd rfl rfl (by decide) rfl rfl (pdm_own (pdn_call (okn__law_lists T) (hr.mono (by decide)) (by rfl) T.m__law_lists T.F__law_lists.kp T.b__law_lists bx_pa (pda_cons (pd_var (pv 3)) pda_nil) (lenA_cons lenA_nil) rfl) (pdm_own (pdn_call (okn__law_lists T) (hr.mono (by decide)) (by rfl) T.m__law_lists T.F__law_lists.kp T.b__law_lists bx_pa (pda_cons (pd_ix (hu_of hr) (pd_var (pv 2)) pd_int) pda_nil) (lenA_cons lenA_nil) rfl) pdm_nil)) rfl)
  (psds_cons (psd_set sc__law_right.nd rfl (by first | exact Or.inl rfl | exact Or.inr rfl) (pd_lendG (pd_makeKw0 (c := 4) (is := [0, 1]) T.mk_Keys (ok_Keys_D_initD_ T) (hr.mono (by decide)) (by rfl) T.m_Keys T.kb_Keys_D_initD___0_names_tells bx_pa (pdk_cons (pd_var (pv 10)) (pdk_cons (pd_var (pv 11)) pdk_nil)) (lenA_cons (lenA_cons lenA_nil)) rfl)))
  (psds_cons (psd_om (pv 10) PySem.F.slot_list_append PySem.F.type_list_append mt_append rom_app (pda_cons pd_str pda_nil))
  (psds_cons (psd_om (pv 11) PySem.F.slot_list_append PySem.F.type_list_append mt_append rom_app (pda_cons (pd_lst (pda_cons (pd_ix (hu_of hr) (pd_var (pv 3)) pd_int) (pda_cons pd_str pda_nil))) pda_nil))
  (psds_cons (psd_set sc__law_right.nd rfl (by first | exact Or.inl rfl | exact Or.inr rfl) (pd_make (c := 4) T.mk_Keys (ok_Keys_D_initD_ T) (hr.mono (by decide)) (by rfl) T.m_Keys T.bd_Keys_D_initD_.choose_spec.2 T.bd_Keys_D_initD_.choose_spec.1 T.dd_Keys_D_initD_ bx_pa (pda_cons (pd_var (pv 3)) pda_nil) (lenA_cons lenA_nil) rfl))
  (psds_cons (psd_set sc__law_right.nd rfl (by first | exact Or.inl rfl | exact Or.inr rfl) (pd_if (pdb_cmp (op_eqD hr.units) rop_eq (pd_callB cr_len rcp_len (by rfl) T.n_len PySem.boot_len (pda_cons (pd_var (pv 3)) pda_nil)) pd_int (nomark _)) (pd_make (c := 4) T.mk_Keys (ok_Keys_D_initD_ T) (hr.mono (by decide)) (by rfl) T.m_Keys T.bd_Keys_D_initD_.choose_spec.2 T.bd_Keys_D_initD_.choose_spec.1 T.dd_Keys_D_initD_ bx_pa (pda_cons (pd_op opr_add rop_add (pd_slice (pd_var (pv 3)) (pdo_some pd_int) pdo_none) (pd_tup (pda_cons pd_str pda_nil))) pda_nil) (lenA_cons lenA_nil) rfl) (pd_make (c := 4) T.mk_Keys (ok_Keys_D_initD_ T) (hr.mono (by decide)) (by rfl) T.m_Keys T.b_Keys_D_initD_ .nil defOk0 bx_pa (pda_cons (pd_op opr_add rop_add (pd_var (pv 3)) (pd_tup (pda_cons pd_str pda_nil))) (pda_cons (pd_ix (hu_of hr) (pd_var (pv 2)) pd_int) pda_nil)) (lenA_cons (lenA_cons lenA_nil)) rfl)))
  (psds_cons (psd_set sc__law_right.nd rfl (by first | exact Or.inl rfl | exact Or.inr rfl) (pd_lst (pda_cons (pd_ofC (pc_cmpOwn (op := .Eq) (c := 4) (tb := tbo_Keys) (fun _ _ => rfl) (pd_var (pv 12)) (pd_var (pv 7)) (ok_Keys_D_eqD_ T) (hr.mono (by decide)) T.b_Keys_D_eqD_ bx_pa T.q_Keys_D_eqD_ T.at_Keys_D_eqD_ T.fn_Keys_D_eqD_) (nomark _)) (pda_cons (pd_ofC (pc_neOwn (c := 4) (tb := tbo_Keys) (pd_var (pv 12)) (pd_var (pv 7)) (ok_Keys_D_eqD_ T) (hr.mono (by decide)) T.b_Keys_D_eqD_ bx_pa T.q_Keys_D_eqD_ T.mo_Keys T.ne_Keys T.at_Keys_D_eqD_ T.fn_Keys_D_eqD_) (nomark _)) (pda_cons (pd_ofC (pc_cmpOwn (op := .Eq) (c := 4) (tb := tbo_Keys) (fun _ _ => rfl) (pd_var (pv 13)) (pd_var (pv 7)) (ok_Keys_D_eqD_ T) (hr.mono (by decide)) T.b_Keys_D_eqD_ bx_pa T.q_Keys_D_eqD_ T.at_Keys_D_eqD_ T.fn_Keys_D_eqD_) (nomark _)) (pda_cons (pd_ofC (pc_cmpOwn (op := .Eq) (c := 4) (tb := tbo_Keys) (fun _ _ => rfl) (pd_var (pv 14)) (pd_var (pv 7)) (ok_Keys_D_eqD_ T) (hr.mono (by decide)) T.b_Keys_D_eqD_ bx_pa T.q_Keys_D_eqD_ T.at_Keys_D_eqD_ T.fn_Keys_D_eqD_) (nomark _)) pda_nil))))))
  (psds_cons (psd_if (pdw_or (pdb_not (pdb_truth (pd_call (ok__law_same T) rfl (hr.mono (by decide)) (by rfl) T.m__law_same T.F__law_same.kp T.b__law_same .nil defOk0 bx_pa (pda_cons (pd_var (pv 9)) (pda_cons (pd_lst (pda_cons pd_bl (pda_cons pd_bl (pda_cons (pd_cmp (op_eqD hr.units) rop_eq (pd_var (pv 6)) (pd_lst pda_nil) (nomark _)) (pda_cons pd_bl pda_nil))))) pda_nil)) rfl (hlen := (lenA_cons (lenA_cons lenA_nil)))))) (pdw_or1 (pdb_ofC (pc_cmpOwn (op := .Eq) (c := 4) (tb := tbo_Keys) (fun _ _ => rfl) (pd_var (pv 7)) (pd_var (pv 3)) (ok_Keys_D_eqD_ T) (hr.mono (by decide)) T.b_Keys_D_eqD_ bx_pa T.q_Keys_D_eqD_ T.at_Keys_D_eqD_ T.fn_Keys_D_eqD_) (nomark _)))).b (psds_one (psd_ret pd_bl)) psds_nil)
  (psds_cons (psd_setLc (i := 9) (own := [("_law_own", 8)]) rfl sc__law_right.nd rfl rfl (sw_true rfl rfl rfl (by decide +kernel)) (by decide) (pdi_seq (pd_tup (pda_cons pd_str (pda_cons pd_str (pda_cons pd_str (pda_cons pd_str (pda_cons pd_str pda_nil))))))) (blkOk_by (by show blkC ["_law_urn", "_law_turn", "_law_book_here", "_law_flats", "_law_told_so", "_law_pool", "_law_goal", "_law_keyring", "_law_own", "_law_got", "_law_soft", "_law_far_so", "_law_kin", "_law_plain_so", "_law_wide", "_law_far"] (defScope s__law_right) _ _ = true; decide +kernel)) (fun _ _ _ _ _ => (pg_name (i := 8) sc__law_right.nd rfl (by first | exact Or.inl rfl | exact Or.inr rfl))) (fun _ _ _ _ _ => pdts_nil) (fun _ _ _ _ _ => (pd_ofC (pc_inOwn (c := 4) (neg := false) rfl (pd_var (pv 8)) (pd_var (pv 7)) (ok_Keys_D_containsD_ T) (hr.mono (by decide)) T.b_Keys_D_containsD_ paE0 T.at_Keys_D_containsD_ T.fn_Keys_D_containsD_) rfl)))
  (psds_one (psd_if (pdb_not (pdb_truth (pd_call (ok__law_same T) rfl (hr.mono (by decide)) (by rfl) T.m__law_same T.F__law_same.kp T.b__law_same .nil defOk0 bx_pa (pda_cons (pd_var (pv 9)) (pda_cons (pd_op opr_add rop_add (pd_lst (pda_cons (pd_cmp (opr_in (u65 hr)) rop_in pd_str (pd_var (pv 3)) rfl) (pda_cons (pd_cmp (opr_in (u65 hr)) rop_in pd_str (pd_var (pv 3)) rfl) pda_nil))) (pd_op opr_mul rop_mul (pd_lst (pda_cons pd_bl pda_nil)) pd_int)) pda_nil)) rfl (hlen := (lenA_cons (lenA_cons lenA_nil)))))) (psds_one (psd_ret pd_bl)) psds_nil))))))))))))))))))))
  (psds_one (psd_ret pd_bl))))
end
end Pr
set_option Elab.async false
set_option linter.all false
set_option maxRecDepth 100000
set_option maxHeartbeats 4000000
namespace Pr
open PySem L2 Evl Dl
/-- a box: three numbers, new -/
def spBox (K : PySem.W.Frag) : Sp := fun vs H Q _ => ∃ (a : Addr) (cs : List Int) (k : Nat), vs = [.ref a, .int k] ∧ SqL K H a (cs.map V.int) ∧ k < cs.length ∧ cs.length ≤ 63 ∧
  ∀ (x y : Int) (r : Addr), 0 ≤ x → 0 ≤ y → y < 2 ^ 62 → H r = none → Q (.ref r) (upd H r (.lst [.int x, .int y, .int 0]))
theorem bit_small (b : Bool) : -(2 ^ 64) < (if b = true then (1 : Int) else 0) ∧ (if b = true then (1 : Int) else 0) < 2 ^ 64 := by cases b <;> decide
theorem bit_pos (b : Bool) : 0 ≤ (if b = true then (1 : Int) else 0) := by cases b <;> decide
section
variable {P : Program} {w : World} {K : PySem.W.Frag} {mg : Str → Option Value} {base : Heap} {A : Ad}
theorem box_ok (T : Tx P K mg A) : FnOk P w K mg base (L2.CX P w) 1 A.f__law_box A.d__law_box ["_law_script", "_law_k"] (spBox K) := by
  refine T.F__law_box.ok sc__law_box (fun vs H Q E h => ?_) (fun cdv A1 outer s H vs Q E hr h => ?_)
  · obtain ⟨a, cs, k, rfl, _⟩ := h; rfl
  obtain ⟨a, cs, k, rfl, hS, hk, h63, q⟩ := h
  refine ⟨_, pss_cons (ps_set (i := 2) sc__law_box.nd rfl (Or.inl rfl) (pe_ifExp (pt_cmpR op_lt (pv 1) (pe_callB call_len_seq (by rfl) T.n_len PySem.boot_len (pa_cons (pv 0) pa_nil)) (nomark _)) (pe_ix ix_list (pv 0) (pv 1) (fun _ _ => rfl)) pe_int))
    (pss_one (ps_ret (pe_lst (pa_cons (pe_op op_mul (pe_callB call_abs (by rfl) T.n_abs PyProof.Rows.boot_abs (pa_cons (pv 2) pa_nil)) (pe_callTy call_int1 (by rfl) T.n_int PyProof.Rows.boot_int (pa_cons (pe_cmpR op_ge (pe_callB call_abs (by rfl) T.n_abs PyProof.Rows.boot_abs (pa_cons (pv 2) pa_nil)) (pe_op op_pow pe_int pe_int) (nomark _)) pa_nil)))
      (pa_cons (pe_op op_add (pe_op op_add (pe_op op_mod (pe_callTy call_int1 (by rfl) T.n_int PyProof.Rows.boot_int (pa_cons (pv 2) pa_nil)) pe_int) (pe_op op_mul pe_int (pv 1))) pe_int) (pa_cons pe_int pa_nil)))))), ?_⟩
  have hl : (cs.map V.int).length = cs.length := List.length_map _
  refine ⟨_, rfl, _, rfl, a, _, rfl, .inl hS, _, _, rfl, rfl, _, rfl, ?_⟩
  refine ite2 (fun c => ?_) (fun c => ?_)
  · have hat : atI (cs.map V.int) ((k : Nat) : Int) = some (.int cs[k]) := atI_nat (by rw [List.getElem?_map, List.getElem?_eq_getElem hk] <;> rfl)
    refine ⟨_, rfl, _, rfl, a, _, _, _, rfl, rfl, hS, hat, ?_⟩
    -- the list's display
    refine ⟨_, rfl, _, rfl, _, rfl, _, rfl, _, _, rfl, rfl, ?_⟩
    refine ⟨⟨by decide, by decide, by decide⟩, _, _, rfl, rfl, .inr ⟨_, rfl, _, _, rfl, rfl, .inr ?_, _, rfl, .inl ⟨_, rfl, _, _, rfl, rfl, (by show (0 : Int) < 2305843009213693951; decide), _, rfl, _, _, rfl, rfl, .inl (by decide), _, _, rfl, rfl, _, _, rfl, rfl, ?_⟩⟩⟩
    · exact bit_small _
    refine ⟨(by show 3 ≤ sizeLine; decide), fun p hp => ?_⟩
    have e1 := Int.emod_nonneg cs[k] (show (2305843009213693951 : Int) ≠ 0 by decide)
    have e2 := Int.emod_lt_of_pos cs[k] (show (0 : Int) < 2305843009213693951 by decide)
    refine q _ _ p ?_ ?_ ?_ hp
    · refine Int.mul_nonneg ?_ ?_
      · split <;> omega
      · exact bit_pos _
    · omega
    · omega
  · exact absurd (of_decide_eq_false (Bool.eq_false_iff.mpr c)) (by rw [hl]; omega)

theorem cut_lo (ns : List Int) (t : Nat) : cutV (ns.map V.int) none (some ((t : Nat) : Int)) = (ns.take t).map V.int := by
  unfold cutV
  rw [HT.sIx_none, HT.sIx_nat, List.drop_zero, Nat.sub_zero, List.length_map, List.map_take]
  by_cases h : t ≤ ns.length
  · rw [Nat.min_eq_left h]
  · rw [Nat.min_eq_right (by omega), List.take_of_length_le (by simp), List.take_of_length_le (by simp; omega)]
theorem cut_hi (ns : List Int) (t k : Nat) : ∃ ys : List Int, cutV (ns.map V.int) (some ((t : Nat) : Int)) (some ((k : Nat) : Int)) = ys.map V.int ∧ ys.length ≤ ns.length - t := by
  unfold cutV
  rw [HT.sIx_nat, HT.sIx_nat, List.length_map]
  refine ⟨(ns.drop (min t ns.length)).take (min k ns.length - min t ns.length), by rw [List.map_take, List.map_drop], ?_⟩
  rw [List.length_take, List.length_drop]
  omega
def spCells (K : PySem.W.Frag) : Sp := fun vs H Q _ => ∃ (a : Addr) (ns : List Int) (t : Nat), vs = [.ref a, .int t] ∧ SqL K H a (ns.map V.int) ∧ ns.length ≤ 63 ∧ 1 ≤ t ∧ t ≤ 63 ∧
  ∀ (c : Addr) (cs : List Int) (H' : Hp), Same H H' → H' c = some (.lst (cs.map V.int)) → 1 ≤ cs.length → cs.length ≤ 63 → Q (.ref c) H'
theorem same_new {H : Hp} {p : Addr} (h : H p = none) (o : HO) : Same H (upd H p o) := fun b u q => by rw [upd_ne (ne_of_none q h)]; exact q
def intR : List V → Hp → VK → Prop := fun xs H Q => (∃ i, xs = [V.int i] ∧ Q (V.int i) H) ∨ ∃ k, xs = [V.bl k] ∧ Q (V.int (if k = true then 1 else 0)) H
theorem cells_rest {K : PySem.W.Frag} {Q : VK} {H H1 : Hp} {a c : Addr} {ns cs : List Int} {t : Nat} {v3 v4 v5 : Option V} (hS : SqL K H a (ns.map V.int)) (h63 : ns.length ≤ 63) (h1 : 1 ≤ t)
    (q : ∀ (c : Addr) (cs : List Int) (H' : Hp), Same H H' → H' c = some (.lst (cs.map V.int)) → 1 ≤ cs.length → cs.length ≤ 63 → Q (.ref c) H') (hs : Same H H1) (hc0 : H c = none) (hc : H1 c = some (.lst (cs.map V.int))) (l1 : 1 ≤ cs.length) (l2 : cs.length ≤ 63) (l3 : t < ns.length → cs.length = t) :
    tSeq (tFor (iEnum K (tCons (L2.tSl (rSlL K) (tVar 0) (L2.tPart (tVar 1)) (L2.tPart (tC (.int 63)))) tNil)) (gTup K 2 (gCons (gName 3) (gCons (gName 4) gNil)))
      (tSeq (tAsg (tOp (L2.rI (fun x j => 0 < j) fun i j => .int (i % j)) (tCB intR (tCons (tVar 3) tNil)) (tVar 1)) (gName 5))
        (tAsg (tOp (rI0 fun i j => .int (i + j)) (tOp (rIxL K) (tVar 2) (tVar 5)) (tOp (L2.rI CMul fun i j => .int (i * j)) (tVar 4) (tOp (rI0 fun i j => .int (i + j)) (tVar 3) (tC (.int 2))))) (gSub (tVar 2) (tVar 5) rSetL))))
      (tRet (tVar 2)) { nx := fun _ H' => Q .non H', rt := Q } [some (.ref a), some (.int t), some (.ref c), v3, v4, v5] H1 := by
  obtain ⟨ys, ey, ly⟩ := cut_hi ns t 63
  refine ⟨_, rfl, _, rfl, _, rfl, _, rfl, a, _, rfl, hs.seq hS, fun b hb => ?_⟩
  have ey : cutV (ns.map V.int) (some ((t : Nat) : Int)) (some 63) = ys.map V.int := ey
  rw [ey]
  have hbc : b ≠ c := fun e => by rw [e, hc] at hb; cases hb
  have hcb : c ≠ b := fun e => hbc e.symm
  refine ⟨b, ys.map V.int, rfl, SqL.of upd_same, ?_⟩
  refine for_it walk_enum (fun i σ H2 => ∃ (cs2 : List Int) (w3 w4 w5 : Option V), σ = [some (.ref a), some (.int t), some (.ref c), w3, w4, w5] ∧ Same H H2 ∧ H2 c = some (.lst (cs2.map V.int)) ∧ cs2.length = cs.length ∧ H2 b = some (.lst (ys.map V.int)))
    ⟨cs, v3, v4, v5, rfl, hs.trans (same_new hb _), by rw [upd_ne hcb]; exact hc, rfl, upd_same⟩ (fun i σ H2 _ ⟨_, _, _, _, _, _, _, _, hb2⟩ => SqL.of hb2) ?_ ?_
  · rintro i x σ H2 H3 hi ⟨cs2, w3, w4, w5, rfl, hs2, hc2, hl2, hb2⟩ ⟨T, x1, x2, rfl, hT, rfl, e1, e2⟩
    cases e1
    rw [List.length_map] at hi
    have e2 : (ys.map V.int)[i]? = some x2 := e2
    rw [List.getElem?_map, List.getElem?_eq_getElem hi] at e2
    cases e2
    have htl : cs.length = t := l3 (by omega)
    have b1 := Int.emod_nonneg ((i : Nat) : Int) (show ((t : Nat) : Int) ≠ 0 by omega)
    have b2 := Int.emod_lt_of_pos ((i : Nat) : Int) (show (0 : Int) < ((t : Nat) : Int) by omega)
    obtain ⟨j, hj⟩ : ∃ j : Nat, ((i : Nat) : Int) % ((t : Nat) : Int) = ((j : Nat) : Int) := ⟨(((i : Nat) : Int) % ((t : Nat) : Int)).toNat, by omega⟩
    have hjl : j < cs2.length := by omega
    have hcT : c ≠ T := fun e => by rw [← e, hc2] at hT; cases hT
    have hbT : b ≠ T := fun e => by rw [← e, hb2] at hT; cases hT
    have hc3 : upd H2 T (.tup [.int ((i : Nat) : Int), .int ys[i]]) c = some (.lst (cs2.map V.int)) := by rw [upd_ne hcT]; exact hc2
    refine ⟨T, _, rfl, SqT.of upd_same, rfl, _, _, rfl, _, _, rfl, rfl, ?_⟩
    refine ⟨_, rfl, .inl ⟨_, rfl, _, rfl, _, _, rfl, rfl, (by show (0 : Int) < ((t : Nat) : Int); omega), ?_⟩⟩
    have hat : atI (cs2.map V.int) (((i : Nat) : Int) % ((t : Nat) : Int)) = some (.int cs2[j]) := by
      rw [hj]
      exact atI_nat (by rw [List.getElem?_map, List.getElem?_eq_getElem hjl] <;> rfl)
    refine ⟨_, rfl, _, rfl, c, _, _, _, rfl, rfl, SqL.of hc3, hat, _, rfl, _, rfl, _, _, rfl, rfl, _, _, rfl, rfl, .inr (by constructor <;> omega), _, _, rfl, rfl, _, rfl, _, rfl, c, _, _, j, rfl, rfl, hc3, ?_, ?_⟩
    · rw [List.length_map, hj]
      unfold ixN
      rw [if_pos (by omega), if_pos (by omega), Int.toNat_natCast]
    · refine ⟨cs2.set j (cs2[j] + ys[i] * (((i : Nat) : Int) + 2)), _, _, _, rfl, fun d o hd => ?_, ?_, ?_, ?_⟩
      · have n1 : d ≠ T := fun e => by rw [e] at hd; rw [hs2 _ _ hd] at hT; cases hT
        have n2 : d ≠ c := fun e => by rw [e, hc0] at hd; cases hd
        rw [upd_ne n2, upd_ne n1]; exact hs2 _ _ hd
      · rw [upd_same, List.map_set]
      · rw [List.length_set]; exact hl2
      · rw [upd_ne hbc, upd_ne hbT]; exact hb2
  · rintro σ H2 ⟨cs2, w3, w4, w5, rfl, hs2, hc2, hl2, hb2⟩
    exact ⟨_, rfl, q c cs2 H2 hs2 hc2 (by omega) (by omega)⟩
theorem cells_ok (T : Tx P K mg A) : FnOk P w K mg base (L2.CX P w) 1 A.f__law_cells A.d__law_cells ["_law_script", "_law_top"] (spCells K) := by
  have nd := (sc__law_cells).nd
  refine T.F__law_cells.ok sc__law_cells (fun vs H Q E h => ?_) (fun cdv A1 outer s H vs Q E hr h => ?_)
  · obtain ⟨a, cs, k, rfl, _⟩ := h; rfl
  obtain ⟨a, ns, t, rfl, hS, h63, h1, h2, q⟩ := h
  refine ⟨_, pss_cons (ps_set (i := 2) nd rfl (Or.inl rfl) (pe_orT (pe_callTy call_list_of (by rfl) T.n_list PyProof.Rows.boot_list (pa_cons (pe_slice sl_list (pv 0) po_none (po_some (pv 1))) pa_nil)) (pe_one (pe_lst (pa_cons pe_int pa_nil)))))
    (pss_cons (ps_for bx_passes rfl (pi_enum (by rfl) T.n_enumerate (pa_cons (pe_slice sl_list (pv 0) (po_some (pv 1)) (po_some pe_int)) pa_nil)) (pg_tup rfl (pgs_cons (pg_name (i := 3) nd rfl (Or.inl rfl)) (pgs_cons (pg_name (i := 4) nd rfl (Or.inl rfl)) pgs_nil)))
      (pss_cons (ps_set (i := 5) nd rfl (Or.inl rfl) (pe_op op_mod (pe_callTy call_int1 (by rfl) T.n_int PyProof.Rows.boot_int (pa_cons (pv 3) pa_nil)) (pv 1)))
        (pss_one (ps_asg (pe_op op_add (pe_ix ix_list (pv 2) (pv 5) (fun _ _ => rfl)) (pe_op op_mul (pv 4) (pe_op op_add (pv 3) pe_int))) (pg_sub (pv 2) (pv 5) set_list)))))
    (pss_one (ps_ret (pv 2)))), ?_⟩
  refine ⟨_, rfl, _, rfl, _, rfl, a, _, rfl, hS, fun p hp => ?_⟩
  rw [cut_lo]
  have s1 := same_new hp (.lst ((ns.take t).map V.int))
  refine ⟨p, _, rfl, .inl (SqL.of upd_same), fun l hl => ?_⟩
  refine ⟨!((ns.take t).map V.int).isEmpty, .inl ⟨_, SqL.of upd_same, rfl⟩, ?_⟩
  have s2 := s1.trans (same_new hl (.lst ((ns.take t).map V.int)))
  by_cases e : ns = []
  · subst e
    rw [if_neg (by simp)]
    refine ⟨by show 1 ≤ sizeLine; decide, fun c hc => ?_⟩
    exact cells_rest (cs := [0]) hS h63 h1 q (s2.trans (same_new hc _)) (s2.free hc) upd_same (Nat.le_refl _) (by decide) (fun z => by cases z)
  · have hpos : 0 < ns.length := List.length_pos_iff.mpr e
    have hlen : (ns.take t).length = min t ns.length := List.length_take
    rw [if_pos (by cases hx : ns.take t with | nil => rw [hx] at hlen; simp at hlen; omega | cons y r => rfl)]
    exact cells_rest hS h63 h1 q s2 (s1.free hl) upd_same (by omega) (by omega) (fun z => by omega)
def spLaw (K : PySem.W.Frag) : Sp := fun vs H Q _ => ∃ (a : Addr) (ns : List Int), vs = [.ref a] ∧ SqL K H a (ns.map V.int) ∧ ns.length ≤ 63 ∧ ∀ H', Q (.bl true) H'
theorem law_ok {kR : Nat} (T : Tx P K mg A) (G : FnOk P w K mg base (L2.CX P w) (kR + 1) A.f__law_right A.d__law_right ["_law_urn"] (spD K A.ct 1 m__law_right))
    (hR : ∀ u : U, 0 ≤ u.a → 0 ≤ u.b → u.b < 2 ^ 62 → u.c = 0 → ∃ u', m__law_right [.urn] u = .ok (.bl true) u') : FnOk P w K mg base (L2.CX P w) (kR + 2) A.f_law A.d_law ["_law_script"] (spLaw K) := by
  have nd := (sc_law).nd
  refine T.F_law.ok sc_law (fun vs H Q E h => ?_) (fun cdv A1 outer s H vs Q E hr h => ?_)
  · obtain ⟨a, cs, rfl, _⟩ := h; rfl
  obtain ⟨a, ns, rfl, hS, h63, q⟩ := h
  refine ⟨_, pss_cons (ps_set (i := 1) nd rfl (by first | exact Or.inl rfl | exact Or.inr rfl) (pe_call (E := E0) (cells_ok (w := w) (base := base) T) (hr.mono (by omega)) (by rfl) T.m__law_cells T.F__law_cells.kp T.b__law_cells .nil passL (pa_cons (pv 0) (pa_cons pe_int pa_nil))))
    (pss_one (ps_ret (pe_callB (cr_all rfl) (by rfl) T.n_all PyProof.Rows.boot_all (pa_cons (pe_lc (own := [("_law_k", 2)]) rfl nd (pi_range1 (by rfl) T.n_range (pa_cons (pe_callB call_len_seq (by rfl) T.n_len PySem.boot_len (pa_cons (pv 1) pa_nil)) pa_nil)) (blkOk_by (by show blkC ["_law_script", "_law_cells_here", "_law_k"] (defScope s_law) _ _ = true; decide +kernel))
      (fun _ _ _ _ _ => pg_name (i := 2) nd rfl (by first | exact Or.inl rfl | exact Or.inr rfl)) (fun _ _ _ _ _ => pts_nil) (fun _ _ _ _ _ => pe_call (E := E0) G hr (by rfl) T.m__law_right T.F__law_right.kp T.b__law_right .nil passL (pa_cons (pe_call (E := E0) (box_ok (w := w) (base := base) T) (hr.mono (by omega)) (by rfl) T.m__law_box T.F__law_box.kp T.b__law_box .nil passL (pa_cons (pv 1) (pa_cons (pv 2) pa_nil))) pa_nil))) pa_nil)))), ?_⟩
  refine ⟨_, rfl, a, ns, 3, rfl, hS, h63, by decide, by decide, fun c cs H1 s1 hc l1 l2 => ?_⟩
  refine ⟨_, rfl, c, _, rfl, .inl (SqL.of hc), _, rfl, ?_, ?_, fun L hL => ?_⟩
  · rw [List.length_map]; omega
  · rw [List.length_map]; omega
  have en : ((((cs.map V.int).length : Nat) : Int)).toNat = cs.length := by rw [List.length_map]; exact Int.toNat_natCast _
  rw [en]
  refine lc_it walk_range (fun i H2 => Same H1 H2 ∧ H2 L = some (.lst (List.replicate i (V.bl true)))) ⟨same_new hL _, upd_same⟩ (fun _ _ _ _ => trivial) ?_ ?_
  · rintro i x H2 H3 hi ⟨s2, d2⟩ ⟨rfl, rfl⟩
    refine ⟨rfl, ?_⟩
    unfold tYes
    dsimp only
    rw [if_pos rfl]
    have hc2 := s2 _ _ hc
    refine ⟨_, rfl, _, rfl, c, cs, i, by rw [Int.zero_add, List.append_nil], SqL.of hc2, hi, l2, fun x y r hx hy hy2 hr0 => ?_⟩
    obtain ⟨u', hu'⟩ := hR ⟨x, y, 0⟩ hx hy hy2 rfl
    refine ⟨r, fun b => if b = r then none else H3 b, ⟨x, y, 0⟩, [.urn], ⟨fun b o h => ?_, upd_same, ?_⟩, .cons .urn .nil, rfl, ?_⟩
    · replace h : (if b = r then none else H3 b) = some o := h
      split at h
      · cases h
      · rename_i n
        rw [upd_ne n]; exact h
    · show (if r = r then none else H3 r) = none
      rw [if_pos rfl]
    · rw [hu']
      intro F' v H4 st hu4 rv
      cases rv
      have keep : ∀ b o, H3 b = some o → H4 b = some o := fun b o h => st.exH _ _ (st.exF _ _ (by
        show (if b = r then none else H3 b) = some o
        rw [if_neg (ne_of_none h hr0)]; exact h))
      have d4 := keep _ _ d2
      refine ⟨_, d4, by rw [List.length_replicate]; exact small1000 (by omega), fun b o h => ?_, ?_⟩
      · have nb : b ≠ L := ne_of_none h hL
        rw [upd_ne nb]
        exact keep _ _ (s2 _ _ h)
      · rw [upd_same, List.replicate_succ']
  · rintro H2 ⟨s2, d2⟩
    refine ⟨L, List.replicate cs.length true, rfl, SqL.of (by rw [d2, List.map_replicate]), ?_⟩
    have e : (List.replicate cs.length true).all id = true := by rw [List.all_eq_true]; intro x hx; rw [List.eq_of_mem_replicate hx]; rfl
    rw [e]
    exact q H2
theorem no_cx {P : Program} {w : World} {H : Hp} {s : Shared} {e : Value} {s' : Shared} (h : L2.CX P w [] H s (fun _ _ _ => False) e s') : False := by
  obtain ⟨_, _, _, _, _, _, _, _, _, _, _, _, z⟩ := h
  exact z.elim
end
end Pr
set_option Elab.async false
set_option linter.all false
set_option maxRecDepth 100000
set_option maxHeartbeats 4000000
/-! Pl0: plain facts about the operators over data. -/
namespace Dl
open PySem L2 Evl
/-! pln: no bool, no dict, no object within: equal if they are the same -/
mutual
def pln : D → Bool
  | .non => true | .int _ => true | .str s => PyData.strOk s
  | .lst xs => plns xs | .tup xs => plns xs
  | .bl _ => false | .dct _ => false | .obj _ _ => false | .exc _ _ => false | .urn => false
def plns : List D → Bool
  | [] => true
  | x :: xs => pln x && plns xs
end
mutual
theorem eqv_of : ∀ {x y : D}, pln x = true → pln y = true → (PyData.eqv (toPy x) (toPy y) = true ↔ x = y)
  | .non, y, _, hy => by cases y <;> simp_all [pln, toPy, PyData.eqv]
  | .int i, y, _, hy => by cases y <;> simp_all [pln, toPy, PyData.eqv]
  | .str i, y, _, hy => by cases y <;> simp_all [pln, toPy, PyData.eqv]
  | .lst xs, y, hx, hy => by
    cases y <;> first | (simp_all [pln, toPy, PyData.eqv]; done) | skip
    rename_i ys
    unfold pln at hx hy
    simp only [toPy, PyData.eqv, D.lst.injEq]
    exact eqvs_of hx hy
  | .tup xs, y, hx, hy => by
    cases y <;> first | (simp_all [pln, toPy, PyData.eqv]; done) | skip
    rename_i ys
    unfold pln at hx hy
    simp only [toPy, PyData.eqv, D.tup.injEq]
    exact eqvs_of hx hy
  | .bl _, _, hx, _ => by simp [pln] at hx
  | .dct _, _, hx, _ => by simp [pln] at hx
  | .obj _ _, _, hx, _ => by simp [pln] at hx
  | .exc _ _, _, hx, _ => by simp [pln] at hx
  | .urn, _, hx, _ => by simp [pln] at hx
theorem eqvs_of : ∀ {xs ys : List D}, plns xs = true → plns ys = true → (PyData.eqvAll (toPys xs) (toPys ys) = true ↔ xs = ys)
  | [], [], _, _ => by simp [toPys, PyData.eqvAll]
  | [], _ :: _, _, _ => by simp [toPys, PyData.eqvAll]
  | _ :: _, [], _, _ => by simp [toPys, PyData.eqvAll]
  | x :: xs, y :: ys, hx, hy => by
    unfold plns at hx hy
    rw [Bool.and_eq_true] at hx hy
    simp only [toPys, PyData.eqvAll, Bool.and_eq_true, List.cons.injEq, eqv_of hx.1 hy.1, eqvs_of hx.2 hy.2]
end
mutual
def dep : D → Nat
  | .lst xs => deps xs + 1 | .tup xs => deps xs + 1
  | .non => 0 | .int _ => 0 | .str _ => 0 | .bl _ => 0 | .dct _ => 0 | .obj _ _ => 0 | .exc _ _ => 0 | .urn => 0
def deps : List D → Nat
  | [] => 0
  | x :: xs => max (dep x) (deps xs)
end
mutual
theorem lay_of : ∀ {x : D}, pln x = true → isPy x = true ∧ (toPy x).canLay0 = true ∧ (toPy x).depth ≤ dep x
  | .non, _ => by simp [isPy, toPy, PyData.canLay0, PyData.depth]
  | .int _, _ => by simp [isPy, toPy, PyData.canLay0, PyData.depth]
  | .str _, h => by simp [pln] at h; simp [isPy, toPy, PyData.canLay0, PyData.depth, h]
  | .lst xs, h => by
    unfold pln at h
    obtain ⟨a, b, c⟩ := lays_of h
    simp only [isPy, toPy, PyData.canLay0, PyData.depth, dep]
    exact ⟨a, b, by omega⟩
  | .tup xs, h => by
    unfold pln at h
    obtain ⟨a, b, c⟩ := lays_of h
    simp only [isPy, toPy, PyData.canLay0, PyData.depth, dep]
    exact ⟨a, b, by omega⟩
  | .bl _, hx => by simp [pln] at hx
  | .dct _, hx => by simp [pln] at hx
  | .obj _ _, hx => by simp [pln] at hx
  | .exc _ _, hx => by simp [pln] at hx
  | .urn, hx => by simp [pln] at hx
theorem lays_of : ∀ {xs : List D}, plns xs = true → isPys xs = true ∧ PyData.canLayAll0 (toPys xs) = true ∧ PyData.depthAll (toPys xs) ≤ deps xs
  | [], _ => by simp [isPys, toPys, PyData.canLayAll0, PyData.depthAll]
  | x :: xs, h => by
    unfold plns at h
    rw [Bool.and_eq_true] at h
    obtain ⟨a, b, c⟩ := lay_of h.1
    obtain ⟨a', b', c'⟩ := lays_of h.2
    simp only [isPys, toPys, PyData.canLayAll0, PyData.depthAll, deps, a, b, a', b', Bool.and_self, true_and]
    omega
end
theorem shp_ok {x : D} (h : pln x = true) (hd : dep x ≤ 64) : shp x = true := by
  obtain ⟨a, b, c⟩ := lay_of h
  unfold shp SeqAt.shaped
  rw [a, b, decide_eq_true (Nat.le_trans c hd)]; rfl
open Classical in
theorem oEq_ok {x y : D} (hx : pln x = true) (hy : pln y = true) (dx : dep x ≤ 64) (dy : dep y ≤ 64) : oEq x y = some (.bl (decide (x = y))) := by
  unfold oEq
  rw [shp_ok hx dx, shp_ok hy dy]
  by_cases e : x = y
  · rw [decide_eq_true e, (eqv_of hx hy).mpr e]; rfl
  · rw [decide_eq_false e, Bool.eq_false_iff.mpr fun z => e ((eqv_of hx hy).mp z)]; rfl
open Classical in
theorem oNe_ok {x y : D} (hx : pln x = true) (hy : pln y = true) (dx : dep x ≤ 64) (dy : dep y ≤ 64) : oNe x y = some (.bl (!decide (x = y))) := by
  unfold oNe
  rw [shp_ok hx dx, shp_ok hy dy]
  by_cases e : x = y
  · rw [decide_eq_true e, (eqv_of hx hy).mpr e]; rfl
  · rw [decide_eq_false e, Bool.eq_false_iff.mpr fun z => e ((eqv_of hx hy).mp z)]; rfl
theorem anyEq_ok {x : D} : ∀ {ys : List D}, pln x = true → plns ys = true → (anyEq x ys = true ↔ x ∈ ys)
  | [], _, _ => by simp [anyEq]
  | y :: ys, hx, hy => by
    unfold plns at hy
    rw [Bool.and_eq_true] at hy
    have ih := anyEq_ok (ys := ys) hx hy.2
    unfold anyEq at ih ⊢
    rw [List.any_cons, Bool.or_eq_true, List.mem_cons, ih, eqv_of hy.1 hx]
    exact ⟨fun h => h.imp Eq.symm id, fun h => h.imp Eq.symm id⟩
open Classical in
theorem oIn_tup {x : D} {ys : List D} (hx : pln x = true) (hy : plns ys = true) (dx : dep x ≤ 64) (dy : deps ys ≤ 63) : oIn x (.tup ys) = some (decide (x ∈ ys)) := by
  have e : oIn x (.tup ys) = chk (shp x && shp (.tup ys)) (anyEq x ys) := by cases x <;> rfl
  rw [e, shp_ok hx dx, shp_ok (x := .tup ys) (by unfold pln; exact hy) (by unfold dep; omega)]
  by_cases e : x ∈ ys
  · rw [decide_eq_true e, (anyEq_ok hx hy).mpr e]; rfl
  · rw [decide_eq_false e, Bool.eq_false_iff.mpr fun z => e ((anyEq_ok hx hy).mp z)]; rfl
open Classical in
theorem oIn_lst {x : D} {ys : List D} (hx : pln x = true) (hy : plns ys = true) (dx : dep x ≤ 64) (dy : deps ys ≤ 63) : oIn x (.lst ys) = some (decide (x ∈ ys)) := by
  have e : oIn x (.lst ys) = chk (shp x && shp (.lst ys)) (anyEq x ys) := by cases x <;> rfl
  rw [e, shp_ok hx dx, shp_ok (x := .lst ys) (by unfold pln; exact hy) (by unfold dep; omega)]
  by_cases e : x ∈ ys
  · rw [decide_eq_true e, (anyEq_ok hx hy).mpr e]; rfl
  · rw [decide_eq_false e, Bool.eq_false_iff.mpr fun z => e ((anyEq_ok hx hy).mp z)]; rfl
/-! texts -/
abbrev sD (ns : List Str) : List D := ns.map .str
def okN (ns : List Str) : Prop := ∀ n ∈ ns, PyData.strOk n = true
theorem pln_sD {ns : List Str} (h : okN ns) : plns (sD ns) = true := by
  induction ns with
  | nil => rfl
  | cons n ns ih => unfold sD; rw [List.map_cons]; unfold plns; rw [Bool.and_eq_true]; exact ⟨h n List.mem_cons_self, ih fun m hm => h m (List.mem_cons_of_mem _ hm)⟩
theorem deps_sD (ns : List Str) : deps (sD ns) = 0 := by
  induction ns with
  | nil => rfl
  | cons n ns ih => unfold sD; rw [List.map_cons]; unfold deps; unfold sD at ih; rw [ih]; rfl
theorem mem_sD {n : Str} {ns : List Str} : D.str n ∈ sD ns ↔ n ∈ ns := by simp [sD]
theorem pln_str {n : Str} (h : PyData.strOk n = true) : pln (.str n) = true := by unfold pln; exact h
theorem in_tupS {n : Str} {ns : List Str} (hn : PyData.strOk n = true) (h : okN ns) : oIn (.str n) (.tup (sD ns)) = some (decide (n ∈ ns)) := by
  rw [oIn_tup (pln_str hn) (pln_sD h) (by simp [dep]) (by rw [deps_sD]; decide)]
  simp [mem_sD]
theorem in_lstS {n : Str} {ns : List Str} (hn : PyData.strOk n = true) (h : okN ns) : oIn (.str n) (.lst (sD ns)) = some (decide (n ∈ ns)) := by
  rw [oIn_lst (pln_str hn) (pln_sD h) (by simp [dep]) (by rw [deps_sD]; decide)]
  simp [mem_sD]
theorem eq_str {a b : Str} (ha : PyData.strOk a = true) (hb : PyData.strOk b = true) : oEq (.str a) (.str b) = some (.bl (decide (a = b))) := by
  rw [oEq_ok (pln_str ha) (pln_str hb) (by simp [dep]) (by simp [dep])]
  simp
theorem ne_str {a b : Str} (ha : PyData.strOk a = true) (hb : PyData.strOk b = true) : oNe (.str a) (.str b) = some (.bl (!decide (a = b))) := by
  rw [oNe_ok (pln_str ha) (pln_str hb) (by simp [dep]) (by simp [dep])]
  simp
theorem sD_inj {as bs : List Str} : sD as = sD bs ↔ as = bs := by
  constructor
  · intro h
    induction as generalizing bs with
    | nil => cases bs with | nil => rfl | cons b bs => simp [sD] at h
    | cons a as ih => cases bs with
      | nil => simp [sD] at h
      | cons b bs => simp [sD] at h; rw [h.1, ih (by simpa [sD] using h.2)]
  · intro h; rw [h]
end Dl

/-! Pl2: what is reached (no program in sight). -/
namespace Dl
open PySem L2 Evl
/-- reached from a list by steps of dm -/
inductive Rch (dm : Str → List Str) (st : List Str) : Str → Prop
  | base {x : Str} : x ∈ st → Rch dm st x
  | step {x y : Str} : Rch dm st x → y ∈ dm x → Rch dm st y
def newOf (dm : Str → List Str) (f : List Str) (x : Str) : List Str := (dm x).filter fun o => !decide (o ∈ f)
def bfs (dm : Str → List Str) : Nat → List Str → Nat → List Str
  | 0, f, _ => f
  | n + 1, f, i => match f[i]? with
    | none => f
    | some x => bfs dm n (f ++ newOf dm f x) (i + 1)
def miss (ns f : List Str) : Nat := (ns.filter fun x => !decide (x ∈ f)).length
theorem miss_le (ns f : List Str) : miss ns f ≤ ns.length := List.length_filter_le _ _
theorem miss_mono {ns f g : List Str} (h : ∀ x, x ∈ f → x ∈ g) : miss ns g ≤ miss ns f := by
  unfold miss
  induction ns with
  | nil => simp
  | cons n ns ih =>
    by_cases e : n ∈ f
    · have e2 := h n e
      simp only [List.filter_cons, e, e2, decide_true, Bool.not_true, Bool.false_eq_true, if_false]
      exact ih
    · by_cases e2 : n ∈ g
      · simp only [List.filter_cons, e, e2, decide_true, decide_false, Bool.not_true, Bool.not_false, Bool.false_eq_true, if_false, if_true, List.length_cons]
        omega
      · simp only [List.filter_cons, e, e2, decide_false, Bool.not_false, if_true, List.length_cons]
        omega
theorem miss_lt {ns f g : List Str} (h : ∀ x, x ∈ f → x ∈ g) {y : Str} (hy : y ∈ ns) (h1 : y ∉ f) (h2 : y ∈ g) : miss ns g < miss ns f := by
  unfold miss
  induction ns with
  | nil => cases hy
  | cons n ns ih =>
    have m := miss_mono (ns := ns) h
    unfold miss at m
    by_cases e : n = y
    · subst e
      simp only [List.filter_cons, h1, h2, decide_true, decide_false, Bool.not_true, Bool.not_false, Bool.false_eq_true, if_false, if_true, List.length_cons]
      omega
    · have hy2 : y ∈ ns := (List.mem_cons.mp hy).resolve_left fun z => e z.symm
      have ih := ih hy2
      by_cases e1 : n ∈ f
      · have e2 := h n e1
        simp only [List.filter_cons, e1, e2, decide_true, Bool.not_true, Bool.false_eq_true, if_false]
        exact ih
      · by_cases e2 : n ∈ g
        · simp only [List.filter_cons, e1, e2, decide_true, decide_false, Bool.not_true, Bool.not_false, Bool.false_eq_true, if_false, if_true, List.length_cons]
          omega
        · simp only [List.filter_cons, e1, e2, decide_false, Bool.not_false, if_true, List.length_cons]
          omega
theorem mem_newOf {dm : Str → List Str} {f : List Str} {x y : Str} : y ∈ newOf dm f x ↔ y ∈ dm x ∧ y ∉ f := by simp [newOf, List.mem_filter]
/-- the list stays within its bound -/
theorem bfs_fit {dm : Str → List Str} {ns f : List Str} {C B : Nat} {x : Str} (hx : x ∈ f) (hC : (dm x).length ≤ C) (hns : ∀ y ∈ dm x, y ∈ ns) (h : f.length + C * miss ns f ≤ B) : (f ++ newOf dm f x).length + C * miss ns (f ++ newOf dm f x) ≤ B := by
  have sub : ∀ z, z ∈ f → z ∈ f ++ newOf dm f x := fun z hz => List.mem_append_left _ hz
  have hl : (newOf dm f x).length ≤ C := Nat.le_trans (List.length_filter_le _ _) hC
  cases e : newOf dm f x with
  | nil => rw [List.append_nil]; exact h
  | cons y ys =>
    have hy : y ∈ newOf dm f x := by rw [e]; exact List.mem_cons_self
    obtain ⟨h1, h2⟩ := mem_newOf.mp hy
    rw [← e, List.length_append]
    have lt := miss_lt sub (hns y h1) h2 (List.mem_append_right _ hy)
    have : C * (miss ns (f ++ newOf dm f x) + 1) ≤ C * miss ns f := Nat.mul_le_mul_left C lt
    rw [Nat.mul_add, Nat.mul_one] at this
    omega
theorem bfs_ok {dm : Str → List Str} {ns st : List Str} {C B : Nat} (hC : ∀ x ∈ ns, (dm x).length ≤ C) (hns : ∀ x ∈ ns, ∀ y ∈ dm x, y ∈ ns) : ∀ (n : Nat) (f : List Str) (i : Nat), (∀ x ∈ f, x ∈ ns) → f.length + C * miss ns f ≤ B → i ≤ f.length → B < n + i →
    (∀ x ∈ st, x ∈ f) → (∀ x ∈ f, Rch dm st x) → (∀ j, j < i → ∀ x, f[j]? = some x → ∀ y ∈ dm x, y ∈ f) →
    (∀ x, x ∈ bfs dm n f i ↔ Rch dm st x) ∧ (bfs dm n f i).length ≤ B ∧ ∀ x ∈ bfs dm n f i, x ∈ ns
  | 0, f, i, hf, hB, hi, hn, _, _, _ => by omega
  | n + 1, f, i, hf, hB, hi, hn, hs, hr, hcl => by
    unfold bfs
    cases e : f[i]? with
    | none =>
      dsimp only
      have hl : f.length ≤ i := List.getElem?_eq_none_iff.mp e
      refine ⟨fun x => ⟨hr x, fun h => ?_⟩, by show f.length ≤ B; omega, hf⟩
      induction h with
      | base hx => exact hs _ hx
      | @step x y _ hy ih =>
        obtain ⟨j, hj, ej⟩ := List.mem_iff_getElem.mp ih
        exact hcl j (by omega) x (by rw [List.getElem?_eq_getElem hj, ej]) y hy
    | some x =>
      dsimp only
      have hx : x ∈ f := List.mem_of_getElem? e
      have hil : i < f.length := (List.getElem?_eq_some_iff.mp e).1
      refine bfs_ok hC hns n (f ++ newOf dm f x) (i + 1) (fun z hz => ?_) (bfs_fit hx (hC x (hf x hx)) (hns x (hf x hx)) hB) (by rw [List.length_append]; omega) (by omega) (fun z hz => List.mem_append_left _ (hs z hz)) (fun z hz => ?_) ?_
      · rcases List.mem_append.mp hz with h | h
        · exact hf z h
        · exact hns x (hf x hx) z (mem_newOf.mp h).1
      · rcases List.mem_append.mp hz with h | h
        · exact hr z h
        · exact .step (hr x hx) (mem_newOf.mp h).1
      · intro j hj z hz y hy
        by_cases hji : j < i
        · rw [List.getElem?_append_left (by omega)] at hz
          exact List.mem_append_left _ (hcl j hji z hz y hy)
        · have : j = i := by omega
          subst this
          rw [List.getElem?_append_left hil, e] at hz
          cases hz
          by_cases hyf : y ∈ f
          · exact List.mem_append_left _ hyf
          · exact List.mem_append_right _ (mem_newOf.mpr ⟨hy, hyf⟩)
end Dl

namespace Dl
open PySem L2 Evl
@[simp] theorem x_runB (n : Nat) (f : DS) (ds : List D) (u : U) : runB n f ds u = endB (f (ρ0 n ds) u) := rfl
@[simp] theorem x_ρ0 (n : Nat) (ds : List D) : ρ0 n ds = ds.map .val ++ List.replicate (n - ds.length) .no := rfl
@[simp] theorem x_end1 (ρ : En) (u : U) : endB (.nx ρ u) = .ok .non u := rfl
@[simp] theorem x_end2 (d : D) (u : U) : endB (.rt d u) = .ok d u := rfl
@[simp] theorem x_end3 (c : Nat) (gs : List (Str × D)) (ρ : En) (u : U) : endB (.ex c gs ρ u) = .exc c gs u := rfl
@[simp] theorem x_if (c : DB) (f g : DS) (ρ : En) (u : U) : sIf c f g ρ u = thenS (lendB c ρ u) ρ fun b u => if b = true then f ρ u else g ρ u := rfl
@[simp] theorem x_ret (f : DE) (ρ : En) (u : U) : sRet f ρ u = thenS (f (frz ρ) u) (frz ρ) fun d u => .rt d u := rfl
@[simp] theorem x_frz (f : DS) (ρ : En) (u : U) : sFrz f ρ u = f (frz ρ) u := rfl
@[simp] theorem x_seq (f g : DS) (ρ : En) (u : U) : sSeq f g ρ u = (f ρ u).seq g := rfl
@[simp] theorem x_seq1 (ρ : En) (u : U) (k : DS) : (SR.nx ρ u).seq k = k ρ u := rfl
@[simp] theorem x_seq2 (d : D) (u : U) (k : DS) : (SR.rt d u).seq k = .rt d u := rfl
@[simp] theorem x_seq3 (c : Nat) (gs : List (Str × D)) (ρ : En) (u : U) (k : DS) : (SR.ex c gs ρ u).seq k = .ex c gs ρ u := rfl
@[simp] theorem x_nx (ρ : En) (u : U) : sNx ρ u = .nx ρ u := rfl
@[simp] theorem x_drop (f : DE) (ρ : En) (u : U) : sDrop f ρ u = thenS (f ρ u) ρ fun _ u => .nx ρ u := rfl
@[simp] theorem x_raise (c : Nat) (fl : Str) (f : DE) (ρ : En) (u : U) : sRaise c fl f ρ u = thenS (f ρ u) ρ fun d u => .ex c [(fl, d)] ρ u := rfl
@[simp] theorem x_set (i : Nat) (f : DE) (ρ : En) (u : U) : sSet i f ρ u = thenS (f ρ u) ρ fun d u => .nx (ρ.set i (.val d)) u := rfl
@[simp] theorem x_frz0 : frz [] = [] := rfl
@[simp] theorem x_frz1 (d : D) (ρ : En) : frz (.val d :: ρ) = .val d :: frz ρ := rfl
@[simp] theorem x_frz2 (d : D) (ρ : En) : frz (.own d :: ρ) = .val d :: frz ρ := rfl
@[simp] theorem x_frz3 (ρ : En) : frz (.no :: ρ) = .no :: frz ρ := rfl
theorem x_lendB (f : DB) (ρ : En) (u : U) : lendB f ρ u = match f (frz ρ) u with
  | .exc c gs u' => if (gs.map (·.2)).all scal = true then .exc c gs u' else .no
  | r => r := rfl
theorem x_lend (f : DE) (ρ : En) (u : U) : lend f ρ u = match f (frz ρ) u with
  | .exc c gs u' => if (gs.map (·.2)).all scal = true then .exc c gs u' else .no
  | .ok d u' => if scal d = true then .ok d u' else .no
  | .no => .no := rfl
/-- a test that is answered -/
@[simp] theorem x_lendB_ok {f : DB} {ρ : En} {u u' : U} {b : Bool} (h : f (frz ρ) u = .ok b u') : lendB f ρ u = .ok b u' := by unfold lendB; rw [h]
theorem x_lend_ok {f : DE} {ρ : En} {u u' : U} {d : D} (h : f (frz ρ) u = .ok d u') (hs : scal d = true) : lend f ρ u = .ok d u' := by unfold lend; rw [h]; simp [hs]
@[simp] theorem x_then1 {α : Type} (x : α) (u : U) (ρ : En) (k : α → U → SR) : thenS (.ok x u) ρ k = k x u := rfl
@[simp] theorem x_then2 {α : Type} (c : Nat) (gs : List (Str × D)) (u : U) (ρ : En) (k : α → U → SR) : thenS (.exc c gs u) ρ k = .ex c gs ρ u := rfl
@[simp] theorem x_bnd {α β : Type} (m : M α) (f : α → M β) (u : U) : bnd m f u = match m u with
  | .ok x u' => f x u'
  | .exc c gs u' => .exc c gs u'
  | .no => .no := rfl
@[simp] theorem x_opt1 {α : Type} (x : α) (u : U) : opt (some x) u = .ok x u := rfl
@[simp] theorem x_retM {α : Type} (x : α) (u : U) : (ret x : M α) u = .ok x u := rfl
@[simp] theorem x_var (i : Nat) (ρ : En) : dVar i ρ = opt (getV ρ i) := rfl
@[simp] theorem x_getV0 (d : D) (ρ : En) : getV (.val d :: ρ) 0 = some d := rfl
@[simp] theorem x_getVs (s : Slot) (ρ : En) (i : Nat) : getV (s :: ρ) (i + 1) = getV ρ i := rfl
@[simp] theorem x_c (d : D) (ρ : En) : dC d ρ = ret d := rfl
@[simp] theorem x_op (o : D → D → Option D) (f g : DE) (ρ : En) : dOp o f g ρ = bnd (f ρ) fun x => bnd (g ρ) fun y => opt (o x y) := rfl
@[simp] theorem x_andB (f g : DB) (ρ : En) : dAndB f g ρ = bnd (f ρ) fun x => if x = true then g ρ else ret false := rfl
@[simp] theorem x_orB (f g : DB) (ρ : En) : dOrB f g ρ = bnd (f ρ) fun x => if x = true then ret true else g ρ := rfl
@[simp] theorem x_notB (f : DB) (ρ : En) : dNotB f ρ = bnd (f ρ) fun x => ret (!x) := rfl
def getB : D → Option Bool
  | .bl b => some b
  | _ => none
theorem x_for (fi : DI) (tg : Tg) (body : DS) (ρ : En) (u : U) : sFor fi tg body ρ u = thenS (fi ρ u) ρ fun xs u => forGo tg body xs ρ u := rfl
@[simp] theorem x_getB (b : Bool) : getB (.bl b) = some b := rfl
theorem x_tst (f : DE) (ρ : En) : dTst f ρ = bnd (f ρ) fun x => opt (getB x) := by
  unfold dTst getB
  rfl
@[simp] theorem x_tru (f : DE) (ρ : En) : dTru f ρ = bnd (f ρ) fun x => opt (tru x) := rfl
@[simp] theorem x_dIf (t : DB) (f g : DE) (ρ : En) : dIf t f g ρ = bnd (t ρ) fun x => if x = true then f ρ else g ρ := rfl
@[simp] theorem x_cons (f : DE) (g : DA) (ρ : En) : dCons f g ρ = bnd (f ρ) fun x => bnd (g ρ) fun xs => ret (x :: xs) := rfl
@[simp] theorem x_nil (ρ : En) : dNil ρ = ret [] := rfl
@[simp] theorem x_call (o : List D → Option D) (g : DA) (ρ : En) : dCall o g ρ = bnd (g ρ) fun xs => opt (o xs) := rfl
@[simp] theorem x_callF (m : DF) (dds : List D) (g : DA) (ρ : En) : dCallF m dds g ρ = bnd (g ρ) fun xs => m (xs ++ dds) := rfl
@[simp] theorem x_tup (g : DA) (ρ : En) : dTup g ρ = bnd (g ρ) fun xs => opt (chk (small xs.length) (.tup xs)) := rfl
@[simp] theorem x_lst (g : DA) (ρ : En) : dLst g ρ = bnd (g ρ) fun xs => opt (chk (small xs.length) (.lst xs)) := rfl
@[simp] theorem x_iteM {α : Type} (c : Prop) [Decidable c] (m n : M α) (u : U) : (if c then m else n) u = if c then m u else n u := by split <;> rfl
@[simp] theorem x_chk {α : Type} (x : α) : chk true x = some x := rfl
theorem notIn_tupS {n : Str} {ns : List Str} (hn : PyData.strOk n = true) (h : okN ns) : oNotInD (.str n) (.tup (sD ns)) = some (.bl (!decide (n ∈ ns))) := by unfold oNotInD; rw [in_tupS hn h]; rfl
theorem lcGo_map {α : Type} (enc : α → D) (p : α → Bool) (g : α → D) {tg : Tg} {t : DB} {e : DE} {ρ : En} {u : U} : ∀ (ys : List α), (∀ y ∈ ys, ∃ ρ1, bindT tg (enc y) ρ = some ρ1 ∧ t ρ1 u = .ok (p y) u ∧ (p y = true → e ρ1 u = .ok (g y) u)) → dLcGo tg t e ρ (ys.map enc) u = .ok ((ys.filter p).map g) u
  | [], _ => rfl
  | y :: ys, h => by
    obtain ⟨ρ1, h1, h2, h3⟩ := h y List.mem_cons_self
    have ih := lcGo_map enc p g (tg := tg) (t := t) (e := e) (ρ := ρ) (u := u) ys fun z hz => h z (List.mem_cons_of_mem _ hz)
    rw [List.map_cons]
    unfold dLcGo
    rw [h1]
    simp only [x_bnd, x_opt1, nx_ok h2]
    cases hp : p y with
    | false =>
      simp only [List.filter_cons, hp, Bool.false_eq_true, if_false]
      exact ih
    | true =>
      simp only [List.filter_cons, hp, if_true, x_bnd, nx_ok (h3 hp), ih, x_retM, List.map_cons]
theorem dLc_ok {α : Type} (enc : α → D) (p : α → Bool) (g : α → D) (ys : List α) {fi : DI} {tg : Tg} {t : DB} {e : DE} {vs : List Nat} {ρ : En} {u : U} (h1 : fi ρ u = .ok (ys.map enc) u) (hs : ys.length ≤ 100000)
    (h : ∀ y ∈ ys, ∃ ρ1, bindT tg (enc y) (wipeE ρ vs) = some ρ1 ∧ t ρ1 u = .ok (p y) u ∧ (p y = true → e ρ1 u = .ok (g y) u)) : dLc fi tg t e vs ρ u = .ok (.lst ((ys.filter p).map g)) u := by
  have hs : small (ys.map enc).length = true := by unfold small; rw [List.length_map]; exact decide_eq_true hs
  unfold dLc
  simp only [x_bnd, h1, hs, x_chk, x_opt1, lcGo_map enc p g ys h, x_retM]
def dctD (ns : List Str) (v : Str → D) : List (Key × D) := ns.map fun n => (Sum.inr n, v n)
theorem look_dctD {ns : List Str} {v : Str → D} {x : Str} (h : x ∈ ns) : lookD (dctD ns v) (Sum.inr x) = some (v x) := by
  unfold lookD dctD
  induction ns with
  | nil => cases h
  | cons n ns ih =>
    rw [List.map_cons, List.find?_cons]
    by_cases e : n = x
    · subst e; simp
    · have h2 : x ∈ ns := (List.mem_cons.mp h).resolve_left fun z => e z.symm
      have : decide ((Sum.inr n : Key) = Sum.inr x) = false := decide_eq_false fun z => e (Sum.inr.inj z)
      simp only [this]
      exact ih h2
theorem bindT_nm (i : Nat) (d : D) (ρ : En) : bindT (.nm i) d ρ = some (ρ.set i (.val d)) := rfl
theorem atI_sD {f : List Str} {i : Nat} {x : Str} (h : f[i]? = some x) : atI (sD f) ((i : Nat) : Int) = some (.str x) := atI_nat (by unfold sD; rw [List.getElem?_map, h]; rfl)
@[simp] theorem x_getO0 (d : D) (ρ : En) : getO (.own d :: ρ) 0 = some d := rfl
@[simp] theorem x_getOs (s : Slot) (ρ : En) (i : Nat) : getO (s :: ρ) (i + 1) = getO ρ i := rfl
theorem flat_sD (ns : List Str) : flat (.lst (sD ns)) = true := by
  unfold flat
  rw [List.all_eq_true]
  intro x hx
  obtain ⟨n, _, rfl⟩ := List.mem_map.mp hx
  rfl
theorem lendN_ok {f : DE} {ρ : En} {u u' : U} {d : D} (h : f (frz ρ) u = .ok d u') (hs : flat d = true) : lendN f ρ u = .ok d u' := by unfold lendN; rw [h]; simp [hs]
theorem notIn_lstS {n : Str} {ns : List Str} (hn : PyData.strOk n = true) (h : okN ns) : oNotInD (.str n) (.lst (sD ns)) = some (.bl (!decide (n ∈ ns))) := by unfold oNotInD; rw [in_lstS hn h]; rfl
theorem okN_sub {a b : List Str} (h : okN b) (k : ∀ x ∈ a, x ∈ b) : okN a := fun n hn => h n (k n hn)
theorem x_lt (i j : Int) : oLt (.int i) (.int j) = some (.bl (decide (i < j))) := rfl
theorem x_len (xs : List D) : oLen [.lst xs] = some (.int xs.length) := rfl
theorem strsD_sD : ∀ ns : List Str, strsD (sD ns) = some ns
  | [] => rfl
  | n :: ns => by
    have ih := strsD_sD ns
    unfold sD at ih ⊢
    rw [List.map_cons]
    unfold strsD
    rw [ih]; rfl
theorem x_sset {ns : List Str} (h : ns.length < 64) : oSSet [.lst (sD ns)] = some (.lst (sD (sortS (dedup ns)))) := by
  show (if (sD ns).length < 64 then (strsD (sD ns)).map fun ss => D.lst ((sortS (dedup ss)).map .str) else none) = _
  rw [if_pos (by unfold sD; rw [List.length_map]; exact h), strsD_sD]; rfl
theorem x_ssetT {ns : List Str} (h : ns.length < 64) : oSSet [.tup (sD ns)] = some (.lst (sD (sortS (dedup ns)))) := by
  show (if (sD ns).length < 64 then (strsD (sD ns)).map fun ss => D.lst ((sortS (dedup ss)).map .str) else none) = _
  rw [if_pos (by unfold sD; rw [List.length_map]; exact h), strsD_sD]; rfl
/-- sorted(set(ns)) -/
def sset (ns : List Str) : List Str := sortS (dedup ns)
theorem mem_sset {x : Str} {ns : List Str} : x ∈ sset ns ↔ x ∈ ns := (sortS_perm _).mem_iff.trans mem_dedup
theorem nodup_sset (ns : List Str) : (sset ns).Nodup := (sortS_perm _).nodup_iff.mpr (nodup_dedup ns)
theorem sset_ext {a b : List Str} (h : ∀ x, x ∈ a ↔ x ∈ b) : sset a = sset b := by
  unfold sset
  have p : (dedup a).Perm (dedup b) := (List.perm_ext_iff_of_nodup (nodup_dedup a) (nodup_dedup b)).mpr fun x => mem_dedup.trans ((h x).trans mem_dedup.symm)
  exact List.Perm.eq_of_pairwise (le := fun a b => leS a b = true) (fun a b _ _ => leS_antisymm) (sortS_sorted _) (sortS_sorted _) (((sortS_perm _).trans p).trans (sortS_perm _).symm)
/-! dicts made by a comprehension; loops -/
theorem putD_new {kds : List (Key × D)} {k : Key} {v : D} (h : ∀ kv ∈ kds, kv.1 ≠ k) : putD kds k v = kds ++ [(k, v)] := by
  unfold putD
  rw [if_neg]
  rw [List.any_eq_true]
  rintro ⟨kv, hkv, e⟩
  exact h kv hkv (of_decide_eq_true e)
theorem dcGo_map {tg : Tg} {ek ev : DE} {ρ : En} {u : U} {v : Str → D} : ∀ (ns : List Str) (acc : List (Key × D)), (∀ n ∈ ns, ∃ ρ1, bindT tg (.str n) ρ = some ρ1 ∧ ek ρ1 u = .ok (.str n) u ∧ ev ρ1 u = .ok (v n) u) → ns.Nodup → (∀ n ∈ ns, ∀ kv ∈ acc, kv.1 ≠ Sum.inr n) →
    dDcGo tg dYes ek ev ρ (sD ns) acc u = .ok (acc ++ dctD ns v) u
  | [], acc, _, _, _ => by show Res.ok acc u = _; rw [show dctD [] v = [] from rfl, List.append_nil]
  | n :: ns, acc, h, nd, hk => by
    obtain ⟨ρ1, h1, h2, h3⟩ := h n List.mem_cons_self
    obtain ⟨nd1, nd2⟩ := List.nodup_cons.mp nd
    have ih := dcGo_map (tg := tg) (ek := ek) (ev := ev) (ρ := ρ) (u := u) (v := v) ns (acc ++ [(Sum.inr n, v n)]) (fun m hm => h m (List.mem_cons_of_mem _ hm)) nd2 fun m hm kv hkv => by
      rcases List.mem_append.mp hkv with z | z
      · exact hk m (List.mem_cons_of_mem _ hm) kv z
      · rw [List.mem_singleton.mp z]
        intro e
        have e := Sum.inr.inj e
        exact nd1 (e ▸ hm)
    show dDcGo tg dYes ek ev ρ (.str n :: sD ns) acc u = _
    unfold dDcGo
    have hy : nx (dYes ρ1) u = .ok true u := rfl
    have hk1 : keyD (.str n) = some (Sum.inr n) := rfl
    simp only [h1, x_bnd, x_opt1, hy, if_true, nx_ok h2, nx_ok h3, hk1, putD_new (hk n List.mem_cons_self), ih]
    rw [List.append_assoc]; rfl
theorem dDc_ok {fi : DI} {tg : Tg} {ek ev : DE} {vs : List Nat} {ρ : En} {u : U} {v : Str → D} {ns : List Str} (h1 : fi ρ u = .ok (sD ns) u) (hs : ns.length ≤ 100000) (nd : ns.Nodup)
    (h : ∀ n ∈ ns, ∃ ρ1, bindT tg (.str n) (wipeE ρ vs) = some ρ1 ∧ ek ρ1 u = .ok (.str n) u ∧ ev ρ1 u = .ok (v n) u) : dDc fi tg dYes ek ev vs ρ u = .ok (.dct (dctD ns v)) u := by
  have hs : small (sD ns).length = true := by unfold small sD; rw [List.length_map]; exact decide_eq_true hs
  unfold dDc
  simp only [x_bnd, h1, hs, x_chk, x_opt1, dcGo_map ns [] h nd (fun _ _ _ z => absurd z List.not_mem_nil), x_retM, List.nil_append]
theorem forGo_inv {α : Type} (enc : α → D) {tg : Tg} {body : DS} {u : U} (P : En → Prop) : ∀ (ys : List α) (ρ : En), P ρ → (∀ y ∈ ys, ∀ ρ, P ρ → ∃ ρ1 ρ2, bindT tg (enc y) ρ = some ρ1 ∧ body ρ1 u = .nx ρ2 u ∧ P ρ2) → ∃ ρ', forGo tg body (ys.map enc) ρ u = .nx ρ' u ∧ P ρ'
  | [], ρ, h0, _ => ⟨ρ, rfl, h0⟩
  | y :: ys, ρ, h0, hs => by
    obtain ⟨ρ1, ρ2, h1, h2, h3⟩ := hs y List.mem_cons_self ρ h0
    obtain ⟨ρ', h4, h5⟩ := forGo_inv enc P ys ρ2 h3 fun z hz => hs z (List.mem_cons_of_mem _ hz)
    refine ⟨ρ', ?_, h5⟩
    rw [List.map_cons]
    unfold forGo
    rw [h1]
    dsimp only
    rw [h2]
    exact h4
/-- a tuple or a list -/
def seqD (b : Bool) (xs : List D) : D := if b = true then .tup xs else .lst xs
theorem items_seq (b : Bool) (xs : List D) : itemsD (seqD b xs) = some xs := by cases b <;> rfl
theorem notIn_seqS {b : Bool} {n : Str} {ns : List Str} (hn : PyData.strOk n = true) (h : okN ns) : oNotInD (.str n) (seqD b (sD ns)) = some (.bl (!decide (n ∈ ns))) := by
  cases b
  · exact notIn_lstS hn h
  · exact notIn_tupS hn h
theorem sset_seq {b : Bool} {ns : List Str} (h : ns.length < 64) : oSSet [seqD b (sD ns)] = some (.lst (sD (sset ns))) := by
  cases b
  · exact x_sset h
  · exact x_ssetT h
def tpD (p : Str × Str) : D := .tup [.str p.1, .str p.2]
/-- whom one tells, as it is written -/
def dmOf (tl : List (Str × Str)) (n : Str) : List Str := (tl.filter fun p => decide (p.1 = n)).map (·.2)
theorem mem_dmOf {tl : List (Str × Str)} {n y : Str} : y ∈ dmOf tl n ↔ (n, y) ∈ tl := by
  unfold dmOf
  rw [List.mem_map]
  constructor
  · rintro ⟨p, hp, rfl⟩
    obtain ⟨h1, h2⟩ := List.mem_filter.mp hp
    have e := of_decide_eq_true h2
    subst e
    exact h1
  · intro h
    exact ⟨(n, y), List.mem_filter.mpr ⟨h, decide_eq_true rfl⟩, rfl⟩
theorem dmOf_len (tl : List (Str × Str)) (n : Str) : (dmOf tl n).length ≤ tl.length := by
  unfold dmOf; rw [List.length_map]; exact List.length_filter_le _ _
/-- the closure of a name, sorted -/
def clo (dm : Str → List Str) (x : Str) : List Str := sset (bfs dm 100 (dm x) 0)
end Dl
set_option Elab.async false
set_option linter.all false
set_option maxRecDepth 100000
set_option maxHeartbeats 4000000
namespace Pr
open PySem L2 Evl Dl
theorem check_name_spec {ns : List Str} {n : Str} (hn : PyData.strOk n = true) (h : okN ns) (u : U) : m_check_name [.tup (sD ns), .str n] u = if n = "#" ∨ n ∈ ns then .ok .non u else .exc 0 [("name", .str n)] u := by
  have h1 := ne_str hn (b := "#") (by decide +kernel)
  have h2 := notIn_tupS hn h
  by_cases e1 : n = "#"
  · subst e1
    unfold m_check_name b_check_name
    simp [x_lendB, x_tst, h1]
  · by_cases e2 : n ∈ ns
    · unfold m_check_name b_check_name
      simp [x_lendB, x_tst, h1, h2, e1, e2]
    · unfold m_check_name b_check_name
      simp [x_lendB, x_tst, h1, h2, e1, e2]
/-! ### reached -/
def rchT : DB := dTst (dOp oLt (dVar 3) (dCall oLen (dCons (dVar 2) dNil)))
def rchB : DS := sSeq (sOm 2 oExt (dCons (lendN (dLc (dItems (dOp oIx (dVar 0) (dOp oIx (dVar 2) (dVar 3)))) (.nm 4) (dTst (dOp oNotInD (dVar 4) (dVar 2))) (dVar 4) [4])) dNil)) (sAug 3 (fun x y => match x, y with | .int i, .int j => some (.int (i + j)) | _, _ => none) (dC (.int 1)))
def rchE (ns : List Str) (dm : Str → List Str) (x : Str) (f : List Str) (i : Nat) : En := [.val (.dct (dctD ns fun n => .lst (sD (dm n)))), .val (.str x), .own (.lst (sD f)), .val (.int i), .no]
theorem rch_test {ns : List Str} {dm : Str → List Str} {x : Str} {f : List Str} {i : Nat} {u : U} : lendB rchT (rchE ns dm x f i) u = .ok (decide (i < f.length)) u := by
  refine x_lendB_ok ?_
  unfold rchT rchE
  simp [x_tst, x_lt, x_len]
theorem rch_body {ns : List Str} {dm : Str → List Str} {x y : Str} {f : List Str} {i : Nat} {u : U} (hi : f[i]? = some y) (hy : y ∈ ns) (hf : okN f) (hd : okN (dm y)) (h1 : f.length ≤ 1000) (h2 : (dm y).length ≤ 1000) :
    rchB (rchE ns dm x f i) u = .nx (rchE ns dm x (f ++ newOf dm f y) (i + 1)) u := by
  have hlc : dLc (dItems (dOp oIx (dVar 0) (dOp oIx (dVar 2) (dVar 3)))) (.nm 4) (dTst (dOp oNotInD (dVar 4) (dVar 2))) (dVar 4) [4] (frz (rchE ns dm x f i)) u = .ok (.lst (((dm y).filter fun o => !decide (o ∈ f)).map .str)) u := by
    refine dLc_ok D.str (fun o => !decide (o ∈ f)) D.str (dm y) ?_ (by omega) fun o ho => ⟨_, rfl, ?_, fun _ => ?_⟩
    · have e1 : oIx (.lst (sD f)) (.int i) = some (.str y) := atI_sD hi
      have e2 : oIx (.dct (dctD ns fun n => .lst (sD (dm n)))) (.str y) = some (.lst (sD (dm y))) := look_dctD (v := fun n => .lst (sD (dm n))) hy
      unfold rchE
      simp [dItems, e1, e2, itemsD]
    · have e := notIn_lstS (hd o ho) hf
      unfold rchE
      simp [x_tst, wipeE, e]
    · unfold rchE
      simp [wipeE]
  have hl : lendN (dLc (dItems (dOp oIx (dVar 0) (dOp oIx (dVar 2) (dVar 3)))) (.nm 4) (dTst (dOp oNotInD (dVar 4) (dVar 2))) (dVar 4) [4]) (rchE ns dm x f i) u = .ok (.lst (sD (newOf dm f y))) u := lendN_ok hlc (flat_sD _)
  have hs : small ((sD f).length + (sD (newOf dm f y)).length) = true := by
    have : (newOf dm f y).length ≤ (dm y).length := List.length_filter_le _ _
    unfold small sD
    rw [List.length_map, List.length_map]
    exact decide_eq_true (by omega)
  unfold rchB
  rw [x_seq]
  have e1 : sOm 2 oExt (dCons (lendN (dLc (dItems (dOp oIx (dVar 0) (dOp oIx (dVar 2) (dVar 3)))) (.nm 4) (dTst (dOp oNotInD (dVar 4) (dVar 2))) (dVar 4) [4])) dNil) (rchE ns dm x f i) u = .nx (rchE ns dm x (f ++ newOf dm f y) i) u := by
    unfold sOm
    have g : getO (rchE ns dm x f i) 2 = some (.lst (sD f)) := rfl
    rw [g]
    simp only [x_cons, x_bnd, hl, x_nil, x_retM, x_then1]
    have o : oExt (sD f) [.lst (sD (newOf dm f y))] = some (.non, sD f ++ sD (newOf dm f y)) := by
      show chk _ _ = _
      rw [hs]; rfl
    rw [o]
    dsimp only
    unfold rchE sD
    rw [List.map_append]; rfl
  rw [e1, x_seq1]
  unfold sAug rchE
  simp
theorem rch_loop {ns : List Str} {dm : Str → List Str} {x : Str} {C B : Nat} {u : U} (hok : okN ns) (hC : ∀ x ∈ ns, (dm x).length ≤ C) (hns : ∀ x ∈ ns, ∀ y ∈ dm x, y ∈ ns) (hB1 : B ≤ 1000) (hC1 : C ≤ 1000) : ∀ (n : Nat) (f : List Str) (i : Nat), (∀ x ∈ f, x ∈ ns) → f.length + C * miss ns f ≤ B → i ≤ f.length → B < n + i →
    ∃ j, whGo rchT rchB n (rchE ns dm x f i) u = .nx (rchE ns dm x (bfs dm n f i) j) u
  | 0, f, i, hf, hB, hi, hn => by omega
  | n + 1, f, i, hf, hB, hi, hn => by
    unfold whGo
    rw [rch_test, x_then1]
    by_cases e : i < f.length
    · have ei : f[i]? = some f[i] := List.getElem?_eq_getElem e
      have hx : f[i] ∈ f := List.getElem_mem e
      have hxn := hf _ hx
      rw [if_pos (decide_eq_true e), rch_body ei hxn (okN_sub hok hf) (okN_sub hok (hns _ hxn)) (by omega) (Nat.le_trans (hC _ hxn) hC1)]
      dsimp only
      unfold bfs
      rw [ei]
      dsimp only
      exact rch_loop hok hC hns hB1 hC1 n _ (i + 1) (fun z hz => by
        rcases List.mem_append.mp hz with h | h
        · exact hf z h
        · exact hns _ hxn z (mem_newOf.mp h).1) (bfs_fit hx (hC _ hxn) (hns _ hxn) hB) (by rw [List.length_append]; omega) (by omega)
    · have ei : f[i]? = none := List.getElem?_eq_none_iff.mpr (by omega)
      rw [decide_eq_false e]
      simp only [Bool.false_eq_true, if_false]
      unfold bfs
      rw [ei]
      exact ⟨i, rfl⟩
theorem clo_ok {ns : List Str} {dm : Str → List Str} {x : Str} {C B : Nat} (hC : ∀ x ∈ ns, (dm x).length ≤ C) (hns : ∀ x ∈ ns, ∀ y ∈ dm x, y ∈ ns) (hx : x ∈ ns) (hB : C + C * ns.length ≤ B) (hB1 : B < 64) :
    (∀ y, y ∈ clo dm x ↔ Rch dm (dm x) y) ∧ (∀ y ∈ clo dm x, y ∈ ns) ∧ (bfs dm 100 (dm x) 0).length ≤ B := by
  have h0 : (dm x).length + C * miss ns (dm x) ≤ B := by
    have h1 := hC x hx
    have h2 : C * miss ns (dm x) ≤ C * ns.length := Nat.mul_le_mul_left C (miss_le _ _)
    omega
  obtain ⟨b1, b2, b3⟩ := bfs_ok (st := dm x) hC hns 100 (dm x) 0 (hns x hx) h0 (Nat.zero_le _) (by omega) (fun _ h => h) (fun _ h => .base h) (fun j h => absurd h (Nat.not_lt_zero _))
  exact ⟨fun y => mem_sset.trans (b1 y), fun y hy => b3 y (mem_sset.mp hy), b2⟩
/-- the closure of a name, sorted -/
theorem reached_spec {ns : List Str} {dm : Str → List Str} {x : Str} {C B : Nat} (hok : okN ns) (hC : ∀ x ∈ ns, (dm x).length ≤ C) (hns : ∀ x ∈ ns, ∀ y ∈ dm x, y ∈ ns) (hx : x ∈ ns) (hB : C + C * ns.length ≤ B) (hB1 : B < 64) (u : U) :
    m_reached [.dct (dctD ns fun n => .lst (sD (dm n))), .str x] u = .ok (.tup (sD (clo dm x))) u := by
  have h0 : (dm x).length + C * miss ns (dm x) ≤ B := by
    have h1 := hC x hx
    have h2 : C * miss ns (dm x) ≤ C * ns.length := Nat.mul_le_mul_left C (miss_le _ _)
    omega
  have hCB : C ≤ 1000 := by omega
  obtain ⟨j, hl⟩ := rch_loop (x := x) (u := u) hok hC hns (by omega) hCB 100 (dm x) 0 (hns x hx) h0 (Nat.zero_le _) (by omega)
  obtain ⟨_, _, b2⟩ := clo_ok hC hns hx hB hB1
  have e2 : oIx (.dct (dctD ns fun n => .lst (sD (dm n)))) (.str x) = some (.lst (sD (dm x))) := look_dctD (v := fun n => .lst (sD (dm n))) hx
  have es := x_sset (ns := bfs dm 100 (dm x) 0) (by omega)
  have hb : b_reached = sSeq (sSetN 2 (dCall oList (dCons (dOp oIx (dVar 0) (dVar 1)) dNil))) (sSeq (sSet 3 (dC (.int 0))) (sSeq (sWh 100 rchT rchB) (sRet (dCall oTuple (dCons (dCall oSSet (dCons (dVar 2) dNil)) dNil))))) := rfl
  unfold m_reached
  rw [x_runB, hb, x_seq]
  have s1 : sSetN 2 (dCall oList (dCons (dOp oIx (dVar 0) (dVar 1)) dNil)) (ρ0 5 [.dct (dctD ns fun n => .lst (sD (dm n))), .str x]) u = .nx [.val (.dct (dctD ns fun n => .lst (sD (dm n)))), .val (.str x), .own (.lst (sD (dm x))), .no, .no] u := by
    unfold sSetN
    simp [e2, oList, isOb, List.replicate]
  rw [s1, x_seq1, x_seq]
  have s2 : sSet 3 (dC (.int 0)) [.val (.dct (dctD ns fun n => .lst (sD (dm n)))), .val (.str x), .own (.lst (sD (dm x))), .no, .no] u = .nx (rchE ns dm x (dm x) 0) u := rfl
  rw [s2, x_seq1, x_seq]
  have s3 : sWh 100 rchT rchB (rchE ns dm x (dm x) 0) u = .nx (rchE ns dm x (bfs dm 100 (dm x) 0) j) u := hl
  rw [s3, x_seq1]
  unfold rchE
  simp [es, oTuple, clo, sset]
end Pr

namespace Dl
open PySem L2 Evl
/-- a pair as a tuple or as a list -/
def prB (b : Bool) (p : Str × Str) : D := seqD b [.str p.1, .str p.2]
end Dl
/-! Pl5: Keys(names, tells). -/
namespace Pr
open PySem L2 Evl Dl
def keysF (ns : List Str) (told : Str → List Str) : List (Str × D) := [("own_names", .tup (sD ns)), ("own_told", .dct (dctD ns fun n => .tup (sD (told n))))]
def keysD (ns : List Str) (told : Str → List Str) : D := .obj 4 (keysF ns told)
theorem kne : (("own_told" : Str) == "own_names") = false := by decide +kernel
theorem fld_names (ns : List Str) (told : Str → List Str) : (keysF ns told).lookup ("own_names" : Str) = some (.tup (sD ns)) := by
  unfold keysF
  rw [List.lookup_cons, show (("own_names" : Str) == "own_names") = true from by decide +kernel]
theorem fld_told (ns : List Str) (told : Str → List Str) : (keysF ns told).lookup ("own_told" : Str) = some (.dct (dctD ns fun n => .tup (sD (told n)))) := by
  unfold keysF
  rw [List.lookup_cons, kne, List.lookup_cons, show (("own_told" : Str) == "own_told") = true from by decide +kernel]
def inE (gs : List (Str × D)) (a b c d e f g h : Slot) : En := [.own (.obj 4 gs), a, b, c, d, e, f, g, h]
section
variable {bn bt bp : Bool} {nms : List Str} {tl : List (Str × Str)} {C : Nat} {u : U}
theorem sset_len (ns : List Str) : (sset ns).length ≤ ns.length := by
  unfold sset
  rw [(sortS_perm _).length_eq]
  induction ns with
  | nil => exact Nat.le_refl _
  | cons n ns ih => unfold dedup; split <;> (simp only [List.length_cons]; omega)
/-- the names of the pairs are looked at -/
theorem ini_for (hok : okN nms) (ht : ∀ p ∈ tl, PyData.strOk p.1 = true ∧ PyData.strOk p.2 = true) (hv : ∀ p ∈ tl, p.1 ∈ nms ∧ p.2 ∈ nms) (c d : Slot) :
    ∃ c' d', sFor (dItems (dVar 2)) (.nm 3) (sFor (dItems (dVar 3)) (.nm 4) (sIf (dTst (dOp oNotInD (dVar 4) (dVar 1))) (sRaise 0 "name" (dVar 4)) sNx)) (inE [] (.val (seqD bn (sD nms))) (.val (seqD bt (tl.map (prB bp)))) c d .no .no .no .no) u =
      .nx (inE [] (.val (seqD bn (sD nms))) (.val (seqD bt (tl.map (prB bp)))) c' d' .no .no .no .no) u := by
  have inner : ∀ (c d : Slot) (x : Str), PyData.strOk x = true → x ∈ nms → (sIf (dTst (dOp oNotInD (dVar 4) (dVar 1))) (sRaise 0 "name" (dVar 4)) sNx) (inE [] (.val (seqD bn (sD nms))) (.val (seqD bt (tl.map (prB bp)))) c (.val (.str x)) .no .no .no .no) u =
      .nx (inE [] (.val (seqD bn (sD nms))) (.val (seqD bt (tl.map (prB bp)))) c (.val (.str x)) .no .no .no .no) u := fun c d x hx hm => by
    have e := notIn_seqS (b := bn) hx hok
    rw [x_if]
    have t : lendB (dTst (dOp oNotInD (dVar 4) (dVar 1))) (inE [] (.val (seqD bn (sD nms))) (.val (seqD bt (tl.map (prB bp)))) c (.val (.str x)) .no .no .no .no) u = .ok false u := by
      refine x_lendB_ok ?_
      unfold inE
      cases c <;> simp [x_tst, e, hm]
    rw [t]; rfl
  obtain ⟨ρ', h1, c', d', h2⟩ := forGo_inv (u := u) (prB bp) (tg := .nm 3) (body := sFor (dItems (dVar 3)) (.nm 4) (sIf (dTst (dOp oNotInD (dVar 4) (dVar 1))) (sRaise 0 "name" (dVar 4)) sNx)) (fun ρ => ∃ c d, ρ = inE [] (.val (seqD bn (sD nms))) (.val (seqD bt (tl.map (prB bp)))) c d .no .no .no .no) tl
    (inE [] (.val (seqD bn (sD nms))) (.val (seqD bt (tl.map (prB bp)))) c d .no .no .no .no) ⟨c, d, rfl⟩ (by
      rintro p hp ρ ⟨c, d, rfl⟩
      refine ⟨inE [] (.val (seqD bn (sD nms))) (.val (seqD bt (tl.map (prB bp)))) (.val (prB bp p)) d .no .no .no .no, inE [] (.val (seqD bn (sD nms))) (.val (seqD bt (tl.map (prB bp)))) (.val (prB bp p)) (.val (.str p.2)) .no .no .no .no, rfl, ?_, _, _, rfl⟩
      have e1 := inner (.val (prB bp p)) d p.1 (ht p hp).1 (hv p hp).1
      have e2 := inner (.val (prB bp p)) (.val (.str p.1)) p.2 (ht p hp).2 (hv p hp).2
      have hi : dItems (dVar 3) (inE [] (.val (seqD bn (sD nms))) (.val (seqD bt (tl.map (prB bp)))) (.val (prB bp p)) d .no .no .no .no) u = .ok [.str p.1, .str p.2] u := by cases bp <;> rfl
      rw [x_for, hi, x_then1]
      unfold forGo
      rw [bindT_nm]
      have s1 : (inE [] (.val (seqD bn (sD nms))) (.val (seqD bt (tl.map (prB bp)))) (.val (prB bp p)) d .no .no .no .no).set 4 (.val (.str p.1)) = inE [] (.val (seqD bn (sD nms))) (.val (seqD bt (tl.map (prB bp)))) (.val (prB bp p)) (.val (.str p.1)) .no .no .no .no := rfl
      rw [s1]
      dsimp only
      rw [e1]
      dsimp only
      unfold forGo
      rw [bindT_nm]
      have s2 : (inE [] (.val (seqD bn (sD nms))) (.val (seqD bt (tl.map (prB bp)))) (.val (prB bp p)) (.val (.str p.1)) .no .no .no .no).set 4 (.val (.str p.2)) = inE [] (.val (seqD bn (sD nms))) (.val (seqD bt (tl.map (prB bp)))) (.val (prB bp p)) (.val (.str p.2)) .no .no .no .no := rfl
      rw [s2]
      dsimp only
      rw [e2]
      rfl)
  refine ⟨c', d', ?_⟩
  have hi : dItems (dVar 2) (inE [] (.val (seqD bn (sD nms))) (.val (seqD bt (tl.map (prB bp)))) c d .no .no .no .no) u = .ok (tl.map (prB bp)) u := by
    unfold inE
    simp [dItems, items_seq]
  rw [x_for, hi, x_then1, h1, h2]
theorem runI_eq (c n : Nat) (f : DS) (ds : List D) (u : U) : runI c n f ds u = endI c (f (.own (.obj c []) :: ρ0 (n - 1) ds) u) := rfl
theorem getF_names (gs : List (Str × D)) (x : D) : getF "own_names" [4] (.obj 4 (("own_names", x) :: gs)) = some x := by
  show (if (4 : Nat) ∈ [4] then List.lookup ("own_names" : Str) (("own_names", x) :: gs) else none) = some x
  rw [if_pos (by decide), List.lookup_cons, show (("own_names" : Str) == "own_names") = true from by decide +kernel]
theorem getF_told (y x : D) : getF "own_told" [4] (.obj 4 [("own_names", y), ("own_told", x)]) = some x := by
  show (if (4 : Nat) ∈ [4] then List.lookup ("own_told" : Str) [("own_names", y), ("own_told", x)] else none) = some x
  rw [if_pos (by decide), List.lookup_cons, kne, List.lookup_cons, show (("own_told" : Str) == "own_told") = true from by decide +kernel]
theorem put_names (x : D) : putFD "own_names" x [] = ([("own_names", x)] : List (Str × D)) := rfl
theorem put_told (x y : D) : putFD "own_told" y [("own_names", x)] = ([("own_names", x), ("own_told", y)] : List (Str × D)) := by
  unfold putFD
  rw [if_neg (by decide +kernel)]; rfl
def ringOf (ns : List Str) (told : Str → List Str) : List Str := ns.filter fun n => decide (n ∈ told n)
theorem init_spec (hok : okN nms) (ht : ∀ p ∈ tl, PyData.strOk p.1 = true ∧ PyData.strOk p.2 = true) (hv : ∀ p ∈ tl, p.1 ∈ nms ∧ p.2 ∈ nms) (h1 : nms.length < 64) (hC : ∀ x ∈ sset nms, (dmOf tl x).length ≤ C) (hB : C + C * (sset nms).length < 64) (htl : tl.length ≤ 100000) :
    i_Keys_D_initD_ [seqD bn (sD nms), seqD bt (tl.map (prB bp))] u = if ringOf (sset nms) (clo (dmOf tl)) = [] then .ok (keysF (sset nms) (clo (dmOf tl))) u else .exc 3 [("ring", .tup (sD (ringOf (sset nms) (clo (dmOf tl)))))] u := by
  obtain ⟨c, d, hf⟩ := ini_for (bn := bn) (bt := bt) (u := u) hok ht hv .no .no
  have hns : okN (sset nms) := okN_sub hok fun x hx => mem_sset.mp hx
  have hlen := sset_len nms
  have hdn : ∀ x ∈ sset nms, ∀ y ∈ dmOf tl x, y ∈ sset nms := fun x _ y hy => mem_sset.mpr (hv _ (mem_dmOf.mp hy)).2
  have hclo : ∀ x ∈ sset nms, okN (clo (dmOf tl) x) := fun x hx => okN_sub hns (clo_ok hC hdn hx (Nat.le_refl _) (by omega)).2.1
  unfold i_Keys_D_initD_
  rw [runI_eq]
  have e0 : (Slot.own (D.obj 4 []) :: ρ0 (9 - 1) [seqD bn (sD nms), seqD bt (tl.map (prB bp))]) = inE [] (.val (seqD bn (sD nms))) (.val (seqD bt (tl.map (prB bp)))) .no .no .no .no .no .no := rfl
  rw [e0]
  unfold b_Keys_D_initD_
  rw [x_seq, hf, x_seq1, x_seq]
  -- self.own_names
  have s1 : sFldO "own_names" [4] 0 (dCall oTuple (dCons (dCall oSSet (dCons (dVar 1) dNil)) dNil)) (inE [] (.val (seqD bn (sD nms))) (.val (seqD bt (tl.map (prB bp)))) c d .no .no .no .no) u = .nx (inE [("own_names", .tup (sD (sset nms)))] (.val (seqD bn (sD nms))) (.val (seqD bt (tl.map (prB bp)))) c d .no .no .no .no) u := by
    have e := sset_seq (b := bn) h1
    unfold sFldO inE
    simp [e, oTuple, put_names]
  rw [s1, x_seq1, x_seq]
  -- direct
  have hit : ∀ (gs : List (Str × D)) (a b c d e f g h : Slot), dItems (dFldO "own_names" [4] 0) (inE (("own_names", .tup (sD (sset nms))) :: gs) a b c d e f g h) u = .ok (sD (sset nms)) u := fun gs a b c d e f g h => by
    unfold dItems dFldO inE
    simp [getF_names, itemsD]
  have s2 : sSet 5 (dDc (dItems (dFldO "own_names" [4] 0)) (.nm 4) dYes (dVar 4) (dLc (dItems (dVar 2)) (.tp [7, 8]) (dTst (dOp oEq (dVar 7) (dVar 4))) (dVar 8) [7, 8]) [4]) (inE [("own_names", .tup (sD (sset nms)))] (.val (seqD bn (sD nms))) (.val (seqD bt (tl.map (prB bp)))) c d .no .no .no .no) u =
      .nx (inE [("own_names", .tup (sD (sset nms)))] (.val (seqD bn (sD nms))) (.val (seqD bt (tl.map (prB bp)))) c d (.val (.dct (dctD (sset nms) fun n => .lst (sD (dmOf tl n))))) .no .no .no) u := by
    rw [x_set]
    rw [dDc_ok (ns := sset nms) (v := fun n => .lst (sD (dmOf tl n))) (hit _ _ _ _ _ _ _ _ _) (by omega) (nodup_sset _) fun n hn => ⟨_, bindT_nm _ _ _, ?_, ?_⟩]
    · rfl
    · rfl
    · show dLc _ _ _ _ _ _ _ = _
      have := dLc_ok (u := u) (prB bp) (fun p => decide (p.1 = n)) (fun p => .str p.2) tl (fi := dItems (dVar 2)) (tg := .tp [7, 8]) (t := dTst (dOp oEq (dVar 7) (dVar 4))) (e := dVar 8) (vs := [7, 8]) (ρ := inE [("own_names", .tup (sD (sset nms)))] (.val (seqD bn (sD nms))) (.val (seqD bt (tl.map (prB bp)))) c (.val (.str n)) .no .no .no .no) (by unfold inE; simp [dItems, items_seq]) htl fun p hp => ⟨inE [("own_names", .tup (sD (sset nms)))] (.val (seqD bn (sD nms))) (.val (seqD bt (tl.map (prB bp)))) c (.val (.str n)) .no .no (.val (.str p.1)) (.val (.str p.2)), by cases bp <;> rfl, by
        have e := eq_str (ht p hp).1 (hns n hn)
        unfold inE
        simp [x_tst, e], fun _ => rfl⟩
      rw [show (wipeE (inE [("own_names", .tup (sD (sset nms)))] (.val (seqD bn (sD nms))) (.val (seqD bt (tl.map (prB bp)))) c d .no .no .no .no) [4]).set 4 (.val (.str n)) = inE [("own_names", .tup (sD (sset nms)))] (.val (seqD bn (sD nms))) (.val (seqD bt (tl.map (prB bp)))) c (.val (.str n)) .no .no .no .no from rfl, this]
      unfold dmOf sD
      rw [List.map_map]; rfl
  rw [s2, x_seq1, x_seq]
  -- self.own_told
  have s3 : sFldO "own_told" [4] 0 (dDc (dItems (dFldO "own_names" [4] 0)) (.nm 4) dYes (dVar 4) (dCallF m_reached [] (dCons (dVar 5) (dCons (dVar 4) dNil))) [4]) (inE [("own_names", .tup (sD (sset nms)))] (.val (seqD bn (sD nms))) (.val (seqD bt (tl.map (prB bp)))) c d (.val (.dct (dctD (sset nms) fun n => .lst (sD (dmOf tl n))))) .no .no .no) u =
      .nx (inE (keysF (sset nms) (clo (dmOf tl))) (.val (seqD bn (sD nms))) (.val (seqD bt (tl.map (prB bp)))) c d (.val (.dct (dctD (sset nms) fun n => .lst (sD (dmOf tl n))))) .no .no .no) u := by
    unfold sFldO
    rw [dDc_ok (ns := sset nms) (v := fun n => .tup (sD (clo (dmOf tl) n))) (hit _ _ _ _ _ _ _ _ _) (by omega) (nodup_sset _) fun n hn => ⟨_, bindT_nm _ _ _, ?_, ?_⟩]
    · unfold inE
      simp [put_told, keysF]
    · rfl
    · have e := reached_spec (u := u) hns hC hdn hn (Nat.le_refl _) (by omega)
      unfold inE
      simp [wipeE, e]
  rw [s3, x_seq1, x_seq]
  -- ringed
  have s4 : sSet 6 (dLc (dItems (dFldO "own_names" [4] 0)) (.nm 4) (dTst (dOp oInD (dVar 4) (dOp oIx (dFldO "own_told" [4] 0) (dVar 4)))) (dVar 4) [4]) (inE (keysF (sset nms) (clo (dmOf tl))) (.val (seqD bn (sD nms))) (.val (seqD bt (tl.map (prB bp)))) c d (.val (.dct (dctD (sset nms) fun n => .lst (sD (dmOf tl n))))) .no .no .no) u =
      .nx (inE (keysF (sset nms) (clo (dmOf tl))) (.val (seqD bn (sD nms))) (.val (seqD bt (tl.map (prB bp)))) c d (.val (.dct (dctD (sset nms) fun n => .lst (sD (dmOf tl n))))) (.val (.lst (sD (ringOf (sset nms) (clo (dmOf tl)))))) .no .no) u := by
    rw [x_set]
    have hL := dLc_ok (u := u) D.str (fun n => decide (n ∈ clo (dmOf tl) n)) D.str (sset nms) (fi := dItems (dFldO "own_names" [4] 0)) (tg := .nm 4) (t := dTst (dOp oInD (dVar 4) (dOp oIx (dFldO "own_told" [4] 0) (dVar 4)))) (e := dVar 4) (vs := [4])
      (ρ := inE (keysF (sset nms) (clo (dmOf tl))) (.val (seqD bn (sD nms))) (.val (seqD bt (tl.map (prB bp)))) c d (.val (.dct (dctD (sset nms) fun n => .lst (sD (dmOf tl n))))) .no .no .no) (hit _ _ _ _ _ _ _ _ _) (by omega) fun n hn => ⟨_, bindT_nm _ _ _, by
        have e1 : oIx (.dct (dctD (sset nms) fun n => .tup (sD (clo (dmOf tl) n)))) (.str n) = some (.tup (sD (clo (dmOf tl) n))) := look_dctD (v := fun n => .tup (sD (clo (dmOf tl) n))) hn
        have e2 : oInD (.str n) (.tup (sD (clo (dmOf tl) n))) = some (.bl (decide (n ∈ clo (dmOf tl) n))) := by unfold oInD; rw [in_tupS (hns n hn) (hclo n hn)]; rfl
        unfold inE keysF
        simp [x_tst, wipeE, dFldO, getF_told, e1, e2], fun _ => rfl⟩
    rw [hL, x_then1]
    rfl
  rw [s4, x_seq1, x_if]
  have s5 : lendB (dTst (dOp oGt (dCall oLen (dCons (dVar 6) dNil)) (dC (.int 0)))) (inE (keysF (sset nms) (clo (dmOf tl))) (.val (seqD bn (sD nms))) (.val (seqD bt (tl.map (prB bp)))) c d (.val (.dct (dctD (sset nms) fun n => .lst (sD (dmOf tl n))))) (.val (.lst (sD (ringOf (sset nms) (clo (dmOf tl)))))) .no .no) u = .ok (decide (ringOf (sset nms) (clo (dmOf tl)) ≠ [])) u := by
    have eg : ∀ i j : Int, oGt (.int i) (.int j) = some (.bl (decide (j < i))) := fun _ _ => rfl
    refine x_lendB_ok ?_
    unfold inE
    cases hr : ringOf (sset nms) (clo (dmOf tl)) with
    | nil => cases c <;> cases d <;> simp [x_tst, x_len, eg]
    | cons a r => cases c <;> cases d <;> (simp [x_tst, x_len, eg]; try omega)
  rw [s5, x_then1]
  by_cases hr : ringOf (sset nms) (clo (dmOf tl)) = []
  · rw [if_neg (by simp [hr]), if_pos hr]
    rfl
  · rw [if_pos (by simp [hr]), if_neg hr]
    unfold inE
    simp [oTuple]
    rfl
end
end Pr
set_option Elab.async false
set_option linter.all false
set_option maxRecDepth 100000
set_option maxHeartbeats 4000000
/-! Pl6: what Keys answer. -/
namespace Dl
open PySem L2 Evl
theorem lc2Go_map {α β : Type} (enc : α → D) (enc1 : β → D) (zs : α → List β) (g : α → β → D) {tg tg1 : Tg} {fi1 : DI} {e : DE} {vs1 : List Nat} {ρ : En} {u : U} : ∀ (ys : List α), (∀ y ∈ ys, ∃ ρ1, bindT tg (enc y) ρ = some ρ1 ∧ noOwn ρ1 = true ∧ fi1 ρ1 u = .ok ((zs y).map enc1) u ∧ (zs y).length ≤ 300 ∧
    ∀ z ∈ zs y, ∃ ρ2, bindT tg1 (enc1 z) (wipeE ρ1 vs1) = some ρ2 ∧ e ρ2 u = .ok (g y z) u) → dLc2Go tg dYes fi1 tg1 dYes e vs1 ρ (ys.map enc) u = .ok (ys.flatMap fun y => (zs y).map (g y)) u
  | [], _ => rfl
  | y :: ys, h => by
    obtain ⟨ρ1, h1, h2, h3, h4, h5⟩ := h y List.mem_cons_self
    have ih := lc2Go_map enc enc1 zs g (tg := tg) (tg1 := tg1) (fi1 := fi1) (e := e) (vs1 := vs1) (ρ := ρ) (u := u) ys fun z hz => h z (List.mem_cons_of_mem _ hz)
    have hy : nx (dYes ρ1) u = .ok true u := rfl
    have hz := lcGo_map enc1 (fun _ => true) (g y) (tg := tg1) (t := dYes) (e := e) (ρ := wipeE ρ1 vs1) (u := u) (zs y) fun z hz => by
      obtain ⟨ρ2, a, b⟩ := h5 z hz
      exact ⟨ρ2, a, rfl, fun _ => b⟩
    rw [List.filter_eq_self.mpr fun _ _ => rfl] at hz
    have hl : decide (((zs y).map enc1).length ≤ 300) = true := by rw [List.length_map]; exact decide_eq_true h4
    rw [List.map_cons]
    unfold dLc2Go
    simp only [h1, x_bnd, x_opt1, h2, x_chk, hy, if_true, nx_ok h3, hl, hz, ih, x_retM, List.flatMap_cons]
theorem nodup_len : ∀ {a b : List Str}, a.Nodup → (∀ x ∈ a, x ∈ b) → a.length ≤ b.length
  | [], _, _, _ => Nat.zero_le _
  | x :: a, b, nd, h => by
    obtain ⟨n1, n2⟩ := List.nodup_cons.mp nd
    have hx := h x List.mem_cons_self
    have ih := nodup_len (b := b.erase x) n2 fun y hy => (List.mem_erase_of_ne (fun e : y = x => n1 (by rw [← e]; exact hy))).mpr (h y (List.mem_cons_of_mem _ hy))
    have := List.length_erase_of_mem hx
    have hp : 0 < b.length := List.length_pos_of_mem hx
    rw [List.length_cons]
    omega
theorem dLc2_ok {α β : Type} (enc : α → D) (enc1 : β → D) (zs : α → List β) (g : α → β → D) (ys : List α) {fi : DI} {tg tg1 : Tg} {fi1 : DI} {e : DE} {vs vs1 : List Nat} {ρ : En} {u : U} (h0 : fi ρ u = .ok (ys.map enc) u) (hs : ys.length ≤ 300)
    (h : ∀ y ∈ ys, ∃ ρ1, bindT tg (enc y) (wipeE ρ vs) = some ρ1 ∧ noOwn ρ1 = true ∧ fi1 ρ1 u = .ok ((zs y).map enc1) u ∧ (zs y).length ≤ 300 ∧ ∀ z ∈ zs y, ∃ ρ2, bindT tg1 (enc1 z) (wipeE ρ1 vs1) = some ρ2 ∧ e ρ2 u = .ok (g y z) u) :
    dLc2 fi tg dYes fi1 tg1 dYes e vs vs1 ρ u = .ok (.lst (ys.flatMap fun y => (zs y).map (g y))) u := by
  have hs : decide ((ys.map enc).length ≤ 300) = true := by rw [List.length_map]; exact decide_eq_true hs
  unfold dLc2
  simp only [x_bnd, h0, hs, x_chk, x_opt1, lc2Go_map enc enc1 zs g ys h, x_retM]
end Dl
namespace Pr
open PySem L2 Evl Dl
/-- Keys as they stand -/
structure KG (ns : List Str) (told : Str → List Str) : Prop where
  ok : okN ns
  nd : ns.Nodup
  len : ns.length ≤ 60
  sub : ∀ x ∈ ns, ∀ y ∈ told x, y ∈ ns
  tnd : ∀ x ∈ ns, (told x).Nodup
  nh : ("#" : Str) ∉ ns
section
variable {ns : List Str} {told : Str → List Str} {u : U}
theorem KG.okt (k : KG ns told) {x : Str} (h : x ∈ ns) : okN (told x) := okN_sub k.ok (k.sub x h)
theorem KG.lent (k : KG ns told) {x : Str} (h : x ∈ ns) : (told x).length ≤ 60 := by
  exact Nat.le_trans (nodup_len (k.tnd x h) fun y hy => k.sub x h y hy) k.len
theorem g_names : getF "own_names" [4] (keysD ns told) = some (.tup (sD ns)) := getF_names _ _
theorem g_told : getF "own_told" [4] (keysD ns told) = some (.dct (dctD ns fun n => .tup (sD (told n)))) := getF_told _ _
theorem ix_told {x : Str} (h : x ∈ ns) : oIx (.dct (dctD ns fun n => .tup (sD (told n)))) (.str x) = some (.tup (sD (told x))) := look_dctD (v := fun n => .tup (sD (told n))) h
theorem x_fld (f : Str) (cs : List Nat) (g : DE) (ρ : En) : dFld f cs g ρ = bnd (g ρ) fun x => opt (getF f cs x) := rfl
theorem x_items (f : DE) (ρ : En) : dItems f ρ = bnd (f ρ) fun x => opt (itemsD x) := rfl
theorem names_spec : m_Keys_names [keysD ns told] u = .ok (.tup (sD ns)) u := by
  unfold m_Keys_names b_Keys_names
  simp [x_fld, g_names]
def pairsOf (ns : List Str) (told : Str → List Str) : List (Str × Str) := ns.flatMap fun a => (told a).map fun b => (a, b)
theorem mem_pairsOf {p : Str × Str} : p ∈ pairsOf ns told ↔ p.1 ∈ ns ∧ p.2 ∈ told p.1 := by
  obtain ⟨a, b⟩ := p
  unfold pairsOf
  rw [List.mem_flatMap]
  constructor
  · rintro ⟨x, hx, hy⟩
    obtain ⟨y, hy, e⟩ := List.mem_map.mp hy
    cases e
    exact ⟨hx, hy⟩
  · rintro ⟨h1, h2⟩
    exact ⟨a, h1, List.mem_map.mpr ⟨b, h2, rfl⟩⟩
theorem pairs_spec (k : KG ns told) : m_Keys_pairs [keysD ns told] u = .ok (.tup ((pairsOf ns told).map tpD)) u := by
  have e := dLc2_ok (u := u) D.str D.str told (fun a b => tpD (a, b)) ns (fi := dItems (dFld "own_names" [4] (dVar 0))) (tg := .nm 1) (tg1 := .nm 2) (fi1 := dItems (dOp oIx (dFld "own_told" [4] (dVar 0)) (dVar 1))) (e := dTup (dCons (dVar 1) (dCons (dVar 2) dNil))) (vs := [1, 2]) (vs1 := [2]) (ρ := [.val (keysD ns told), .no, .no])
    (by simp [x_fld, x_items, g_names, itemsD]) (by have := k.len; omega) fun a ha => ⟨[.val (keysD ns told), .val (.str a), .no], rfl, rfl, by simp [x_fld, x_items, g_told, ix_told ha, itemsD], by have := k.lent ha; omega, fun b hb => ⟨[.val (keysD ns told), .val (.str a), .val (.str b)], rfl, rfl⟩⟩
  have e2 : (ns.flatMap fun y => (told y).map fun b => tpD (y, b)) = (pairsOf ns told).map tpD := by
    unfold pairsOf
    rw [List.map_flatMap]
    congr 1
    funext y
    rw [List.map_map]; rfl
  rw [e2] at e
  unfold m_Keys_pairs b_Keys_pairs
  simp [e, oTuple, List.replicate]
theorem told_spec (k : KG ns told) {n : Str} (hn : n ∈ ns) : m_Keys_told [keysD ns told, .str n] u = .ok (.tup (sD (told n))) u := by
  have h1 := check_name_spec (k.ok n hn) k.ok u
  rw [if_pos (Or.inr hn)] at h1
  have h2 := eq_str (k.ok n hn) (b := "#") (by decide +kernel)
  have hne : n ≠ "#" := fun e => k.nh (e ▸ hn)
  unfold m_Keys_told b_Keys_told
  simp [x_fld, g_names, g_told, h1, h2, hne, ix_told hn, x_tst]
theorem told_hash (k : KG ns told) : m_Keys_told [keysD ns told, .str "#"] u = .ok (.tup (sD ns)) u := by
  have h1 := check_name_spec (n := "#") (by decide +kernel) k.ok u
  rw [if_pos (Or.inl rfl)] at h1
  have h2 := eq_str (a := "#") (b := "#") (by decide +kernel) (by decide +kernel)
  unfold m_Keys_told b_Keys_told
  simp [x_fld, g_names, g_told, h1, h2, x_tst]
/-- does one tell the other -/
theorem tells_spec (k : KG ns told) {a b : Str} (ha : a ∈ ns) (hb : b ∈ ns ∨ b = "#") : m_Keys_tells [keysD ns told, .str a, .str b] u = .ok (.bl (decide (b ∈ told a))) u := by
  have hbo : PyData.strOk b = true := by
    rcases hb with h | h
    · exact k.ok b h
    · rw [h]; decide +kernel
  have h1 := check_name_spec (k.ok a ha) k.ok u
  rw [if_pos (Or.inr ha)] at h1
  have h1' := check_name_spec hbo k.ok u
  rw [if_pos hb.symm] at h1'
  have h2 := eq_str (k.ok a ha) (b := "#") (by decide +kernel)
  have hne : a ≠ "#" := fun e => k.nh (e ▸ ha)
  have h3 : oInD (.str b) (.tup (sD (told a))) = some (.bl (decide (b ∈ told a))) := by unfold oInD; rw [in_tupS hbo (k.okt ha)]; rfl
  unfold m_Keys_tells b_Keys_tells
  simp [x_fld, g_names, g_told, h1, h1', h2, hne, ix_told ha, x_tst, h3]
theorem tells_hash (k : KG ns told) {b : Str} (hb : b ∈ ns ∨ b = "#") : m_Keys_tells [keysD ns told, .str "#", .str b] u = .ok (.bl (decide (b ≠ "#"))) u := by
  have hbo : PyData.strOk b = true := by
    rcases hb with h | h
    · exact k.ok b h
    · rw [h]; decide +kernel
  have h1 := check_name_spec (n := "#") (by decide +kernel) k.ok u
  rw [if_pos (Or.inl rfl)] at h1
  have h1' := check_name_spec hbo k.ok u
  rw [if_pos hb.symm] at h1'
  have h2 := eq_str (a := "#") (b := "#") (by decide +kernel) (by decide +kernel)
  have h4 := ne_str hbo (b := "#") (by decide +kernel)
  unfold m_Keys_tells b_Keys_tells
  simp [x_fld, g_names, g_told, h1, h1', h2, x_tst, h4]
end
end Pr

/-! Pl7: what is drawn. -/
namespace Dl
open PySem L2 Evl
/-- n draws are left -/
structure GU (n : Nat) (u : U) : Prop where
  a : 0 ≤ u.a
  b : 0 ≤ u.b
  b2 : u.b < 2 ^ 62
  c : 0 ≤ u.c
  n : u.c + n ≤ 2 ^ 40
theorem GU.le {m n : Nat} {u : U} (g : GU n u) (h : m ≤ n) : GU m u := ⟨g.a, g.b, g.b2, g.c, by have := g.n; omega⟩
theorem o_add (i j : Int) : oAdd (.int i) (.int j) = some (.int (i + j)) := rfl
theorem o_mul {i j : Int} (h : cMul i j = true) : oMulX (.int i) (.int j) = some (.int (i * j)) := by
  unfold oMulX oMul oI
  simp [h, chk]
theorem o_mod {i j : Int} (h : 0 < j) : oMod (.int i) (.int j) = some (.int (i % j)) := by
  unfold oMod oI
  simp [h, chk]
theorem o_div {i j : Int} (h : 0 < j) (h2 : j < 2 ^ 64) : oDiv (.int i) (.int j) = some (.int (i / j)) := by
  have h3 : j.natAbs.log2 < 9000 := by
    rw [Nat.log2_lt (by omega)]
    have : j.natAbs < 2 ^ 64 := by omega
    exact Nat.lt_of_lt_of_le this (Nat.pow_le_pow_right (by decide) (by decide))
  unfold oDiv oI
  simp [h, h3, chk]
theorem o_gt (i j : Int) : oGt (.int i) (.int j) = some (.bl (decide (j < i))) := rfl
theorem o_int (i : Int) : oInt [.int i] = some (.int i) := rfl
theorem cMul_l {i j : Int} (h : -(2 ^ 64) < i ∧ i < 2 ^ 64) : cMul i j = true := by
  unfold cMul
  rw [decide_eq_true h]; rfl
theorem cMul_r {i j : Int} (h : -(2 ^ 64) < j ∧ j < 2 ^ 64) : cMul i j = true := by
  unfold cMul
  rw [decide_eq_true h, Bool.or_true]
theorem x_urn (i : Nat) (k : Int) (ρ : En) (u : U) (h : getV ρ i = some .urn) {z : Int} (hz : U.get u k = some z) : dUrn i k ρ u = .ok (.int z) u := by
  unfold dUrn
  rw [h]
  dsimp only
  rw [hz]
end Dl
namespace Pr
open PySem L2 Evl Dl
theorem take_spec {n : Nat} {m : Int} {u : U} (g : GU (n + 1) u) (h0 : 0 < m) (h1 : m < 2 ^ 60) : ∃ (r : Int) (u' : U), m__law_take [.urn, .int m] u = .ok (.int r) u' ∧ 0 ≤ r ∧ r < m ∧ GU n u' := by
  have ga := g.a; have gb := g.b; have gb2 := g.b2; have gc := g.c; have gn := g.n
  by_cases ha : 0 < u.a
  · refine ⟨u.a % m, { u with a := u.a / m }, ?_, Int.emod_nonneg _ (by omega), Int.emod_lt_of_pos _ h0, ⟨Int.ediv_nonneg ga (by omega), gb, gb2, gc, by show u.c + n ≤ 2 ^ 40; omega⟩⟩
    unfold m__law_take b__law_take
    have e0 : U.get u 0 = some u.a := rfl
    simp [x_lendB, x_tst, sUrn, dUrn, e0, o_gt, ha, o_int, o_mod h0, o_div h0 (by omega : m < 2 ^ 64), List.replicate, U.put]
  · have ha0 : u.a = 0 := by omega
    have ec : u.c + 1 < 2 ^ 41 := by omega
    obtain ⟨c1, hc1⟩ : ∃ c1, c1 = u.c + 1 := ⟨_, rfl⟩
    obtain ⟨once, ho⟩ : ∃ once, once = ((u.b + 48271 * c1) * (39373 + c1)) % 2147483647 := ⟨_, rfl⟩
    obtain ⟨far, hf⟩ : ∃ far, far = once % 40009 + 7 := ⟨_, rfl⟩
    obtain ⟨both, hb⟩ : ∃ both, both = ((once + c1 + u.b / 1000003) * far) % 2147483629 := ⟨_, rfl⟩
    have f1 := Int.emod_nonneg once (show (40009 : Int) ≠ 0 by decide)
    have f2 := Int.emod_lt_of_pos once (show (0 : Int) < 40009 by decide)
    have e0 : U.get u 0 = some u.a := rfl
    have e2 : U.get u 2 = some u.c := rfl
    have p2 : U.put u 2 c1 = some ⟨u.a, u.b, c1⟩ := rfl
    have e1' : U.get ⟨u.a, u.b, c1⟩ 1 = some u.b := rfl
    have e2' : U.get ⟨u.a, u.b, c1⟩ 2 = some c1 := rfl
    have m1 : oMod (.int ((u.b + 48271 * c1) * (39373 + c1))) (.int 2147483647) = some (.int once) := by rw [ho]; exact o_mod (by decide)
    have m2 : oMod (.int once) (.int 40009) = some (.int (once % 40009)) := o_mod (by decide)
    have m3 : oMod (.int ((once + c1 + u.b / 1000003) * far)) (.int 2147483629) = some (.int both) := by rw [hb]; exact o_mod (by decide)
    have m4 : oMod (.int (both * 48271 + once)) (.int 2147483587) = some (.int ((both * 48271 + once) % 2147483587)) := o_mod (by decide)
    have m5 : oMod (.int ((both * 48271 + once) % 2147483587 / 64)) (.int m) = some (.int (((both * 48271 + once) % 2147483587 / 64) % m)) := o_mod h0
    have d1 : oDiv (.int u.b) (.int 1000003) = some (.int (u.b / 1000003)) := o_div (by decide) (by decide)
    have d2 : oDiv (.int ((both * 48271 + once) % 2147483587)) (.int 64) = some (.int ((both * 48271 + once) % 2147483587 / 64)) := o_div (by decide) (by decide)
    have a1 : oAdd (.int u.c) (.int 1) = some (.int c1) := by rw [hc1]; rfl
    have a2 : oAdd (.int (once % 40009)) (.int 7) = some (.int far) := by rw [hf]; rfl
    have x1 : oMulX (.int 48271) (.int c1) = some (.int (48271 * c1)) := o_mul (cMul_l (by decide))
    have x2 : oMulX (.int (u.b + 48271 * c1)) (.int (39373 + c1)) = some (.int ((u.b + 48271 * c1) * (39373 + c1))) := o_mul (cMul_r (by constructor <;> omega))
    have x3 : oMulX (.int (once + c1 + u.b / 1000003)) (.int far) = some (.int ((once + c1 + u.b / 1000003) * far)) := o_mul (cMul_r (by constructor <;> omega))
    have x4 : oMulX (.int both) (.int 48271) = some (.int (both * 48271)) := o_mul (cMul_r (by decide))
    refine ⟨((both * 48271 + once) % 2147483587 / 64) % m, ⟨u.a, u.b, c1⟩, ?_, Int.emod_nonneg _ (by omega), Int.emod_lt_of_pos _ h0, ⟨ga, gb, gb2, by show 0 ≤ c1; omega, by show c1 + n ≤ 2 ^ 40; omega⟩⟩
    have hgv : ∀ (a b c d e : Slot), getV [.val .urn, a, b, c, d, e] 0 = some .urn := fun _ _ _ _ _ => rfl
    have t1 : sIf (dTst (dOp oGt (dUrn 0 0) (dC (.int 0)))) (sSeq (sSet 2 (dOp oMod (dCall oInt (dCons (dUrn 0 0) dNil)) (dVar 1))) (sSeq (sUrn 0 0 (dOp oDiv (dUrn 0 0) (dVar 1))) (sRet (dVar 2)))) sNx [.val .urn, .val (.int m), .no, .no, .no, .no] u = .nx [.val .urn, .val (.int m), .no, .no, .no, .no] u := by
      simp [x_lendB, x_tst, dUrn, e0, o_gt, ha]
    have t2 : sUrn 0 2 (dOp oAdd (dUrn 0 2) (dC (.int 1))) [.val .urn, .val (.int m), .no, .no, .no, .no] u = .nx [.val .urn, .val (.int m), .no, .no, .no, .no] ⟨u.a, u.b, c1⟩ := by
      simp [sUrn, dUrn, e2, a1, p2]
    have t3 : sSet 3 (dOp oMod (dCall oInt (dCons (dOp oMulX (dOp oAdd (dUrn 0 1) (dOp oMulX (dC (.int 48271)) (dUrn 0 2))) (dOp oAdd (dC (.int 39373)) (dUrn 0 2))) dNil)) (dC (.int 2147483647))) [.val .urn, .val (.int m), .no, .no, .no, .no] ⟨u.a, u.b, c1⟩ = .nx [.val .urn, .val (.int m), .no, .val (.int once), .no, .no] ⟨u.a, u.b, c1⟩ := by
      simp [dUrn, e1', e2', x1, o_add, x2, o_int, m1]
    have t4 : sSet 4 (dOp oAdd (dOp oMod (dCall oInt (dCons (dVar 3) dNil)) (dC (.int 40009))) (dC (.int 7))) [.val .urn, .val (.int m), .no, .val (.int once), .no, .no] ⟨u.a, u.b, c1⟩ = .nx [.val .urn, .val (.int m), .no, .val (.int once), .val (.int far), .no] ⟨u.a, u.b, c1⟩ := by
      simp [o_int, m2, a2]
    have t5 : sSet 5 (dOp oMod (dCall oInt (dCons (dOp oMulX (dOp oAdd (dOp oAdd (dVar 3) (dUrn 0 2)) (dOp oDiv (dUrn 0 1) (dC (.int 1000003)))) (dVar 4)) dNil)) (dC (.int 2147483629))) [.val .urn, .val (.int m), .no, .val (.int once), .val (.int far), .no] ⟨u.a, u.b, c1⟩ = .nx [.val .urn, .val (.int m), .no, .val (.int once), .val (.int far), .val (.int both)] ⟨u.a, u.b, c1⟩ := by
      simp [dUrn, e1', e2', o_add, d1, x3, o_int, m3]
    unfold m__law_take b__law_take
    rw [x_runB, x_seq]
    rw [show ρ0 6 [D.urn, .int m] = [.val .urn, .val (.int m), .no, .no, .no, .no] from rfl, t1, x_seq1, x_seq, t2, x_seq1, x_seq, t3, x_seq1, x_seq, t4, x_seq1, x_seq, t5, x_seq1]
    simp [x4, o_add, o_int, m4, d2, m5]
end Pr

/-! Pl8: a row mixed. -/
namespace Dl
open PySem L2 Evl
theorem forGo_inv2 {tg : Tg} {body : DS} (P : Nat → En → U → Prop) : ∀ (xs : List D) (i : Nat) (ρ : En) (u : U), P i ρ u → (∀ j x ρ u, xs[j]? = some x → P (i + j) ρ u → ∃ ρ1 ρ2 u2, bindT tg x ρ = some ρ1 ∧ body ρ1 u = .nx ρ2 u2 ∧ P (i + j + 1) ρ2 u2) → ∃ ρ' u', forGo tg body xs ρ u = .nx ρ' u' ∧ P (i + xs.length) ρ' u'
  | [], i, ρ, u, h0, _ => ⟨ρ, u, rfl, h0⟩
  | x :: xs, i, ρ, u, h0, hs => by
    obtain ⟨ρ1, ρ2, u2, h1, h2, h3⟩ := hs 0 x ρ u rfl h0
    obtain ⟨ρ', u', h4, h5⟩ := forGo_inv2 P xs (i + 1) ρ2 u2 h3 fun j y ρ u hy hp => by
      have e : i + (j + 1) = i + 1 + j := by omega
      have := hs (j + 1) y ρ u (by rw [List.getElem?_cons_succ]; exact hy) (by rw [e]; exact hp)
      rw [e] at this
      exact this
    have e5 : i + 1 + xs.length = i + (xs.length + 1) := by omega
    rw [e5] at h5
    refine ⟨ρ', u', ?_, h5⟩
    unfold forGo
    rw [h1]
    dsimp only
    rw [h2]
    exact h4
theorem erase_perm : ∀ (l : List D) (i : Nat) (h : i < l.length), (l[i] :: l.eraseIdx i).Perm l
  | x :: l, 0, _ => List.Perm.refl _
  | x :: l, i + 1, h => by
    have h' : i < l.length := Nat.lt_of_succ_lt_succ h
    have ih := erase_perm l i h'
    exact (List.Perm.swap x l[i] (l.eraseIdx i)).trans (ih.cons x)
theorem len_seq (b : Bool) (xs : List D) : oLen [seqD b xs] = some (.int xs.length) := by cases b <;> rfl
theorem list_seq (b : Bool) (xs : List D) : oList [seqD b xs] = some (.lst xs) := by cases b <;> rfl
theorem o_rng {n : Nat} (h : n ≤ 100000) : oRng1 [.int n] = some (rngD 0 n) := by
  show chk (decide (-100000 ≤ (n : Int) ∧ (n : Int) ≤ 100000)) (rngD 0 (n : Int).toNat) = _
  rw [decide_eq_true ⟨by omega, by omega⟩, Int.toNat_natCast]; rfl
end Dl
namespace Pr
open PySem L2 Evl Dl
theorem mixed_spec {b : Bool} {xs : List D} {n : Nat} {u : U} (hl : xs.length ≤ 1000) (g : GU (n + xs.length) u) : ∃ (zs : List D) (u' : U), m__law_mixed [.urn, seqD b xs] u = .ok (.tup zs) u' ∧ zs.Perm xs ∧ GU n u' := by
  obtain ⟨ρ', u', h1, ls, fs, s4, h2, h3, h4, h5⟩ := forGo_inv2 (tg := .nm 4) (body := sAppPop 3 2 (lend (dCallF m__law_take [] (dCons (dVar 0) (dCons (dCall oLen (dCons (dVar 2) dNil)) dNil)))))
    (fun i ρ u => ∃ (ls fs : List D) (s4 : Slot), ρ = [.val .urn, .val (seqD b xs), .own (.lst ls), .own (.lst fs), s4] ∧ ls.length + i = xs.length ∧ (fs ++ ls).Perm xs ∧ GU (n + ls.length) u) (rngD 0 xs.length) 0 [.val .urn, .val (seqD b xs), .own (.lst xs), .own (.lst []), .no] u
    ⟨xs, [], .no, rfl, by omega, List.Perm.refl _, g⟩ (by
      rintro j x ρ u hx ⟨ls, fs, s4, rfl, hl2, hp, g⟩
      have hj : j < (rngD 0 xs.length).length := (List.getElem?_eq_some_iff.mp hx).1
      rw [rng_len] at hj
      obtain ⟨k, hk⟩ : ∃ k, ls.length = k + 1 := ⟨ls.length - 1, by omega⟩
      have g2 : GU (n + k + 1) u := by rw [hk] at g; exact g
      obtain ⟨r, u2, e1, r0, r1, g3⟩ := take_spec (m := (ls.length : Int)) g2 (by omega) (by omega)
      have hr : r.toNat < ls.length := by omega
      have hfl : fs.length ≤ 1000 := by have := hp.length_eq; rw [List.length_append] at this; omega
      refine ⟨[.val .urn, .val (seqD b xs), .own (.lst ls), .own (.lst fs), .val x], [.val .urn, .val (seqD b xs), .own (.lst (ls.eraseIdx r.toNat)), .own (.lst (fs ++ [ls[r.toNat]])), .val x], u2, rfl, ?_, ls.eraseIdx r.toNat, fs ++ [ls[r.toNat]], .val x, rfl, ?_, ?_, ?_⟩
      · have hlen : lend (dCallF m__law_take [] (dCons (dVar 0) (dCons (dCall oLen (dCons (dVar 2) dNil)) dNil))) [.val .urn, .val (seqD b xs), .own (.lst ls), .own (.lst fs), .val x] u = .ok (.int r) u2 := by
          refine x_lend_ok ?_ rfl
          simp [x_len, e1]
        have hpop : oPopAt ls [.int r] = some (ls[r.toNat], ls.eraseIdx r.toNat) := by
          show (if 0 ≤ r ∧ r < 100000 then (ls[r.toNat]?).map (fun x => (x, ls.eraseIdx r.toNat)) else none) = _
          rw [if_pos ⟨r0, by omega⟩, List.getElem?_eq_getElem hr]; rfl
        have hsm : small fs.length = true := by unfold small; exact decide_eq_true (by omega)
        unfold sAppPop
        simp [hlen, hpop, hsm]
      · rw [List.length_eraseIdx_of_lt hr]; omega
      · refine List.Perm.trans ?_ hp
        rw [List.append_assoc]
        refine List.Perm.append_left fs ?_
        exact erase_perm ls r.toNat hr
      · have : (ls.eraseIdx r.toNat).length = k := by rw [List.length_eraseIdx_of_lt hr]; omega
        rw [this]; exact g3)
  rw [rng_len] at h3
  have hls : ls = [] := List.length_eq_zero_iff.mp (by omega)
  subst hls h2
  rw [List.append_nil] at h4
  refine ⟨fs, u', ?_, h4, h5⟩
  have e1 : sSetM [2, 3] (mOwn (dCall oList (dCons (dVar 1) dNil)) (mOwn (dLst dNil) mNil)) [.val .urn, .val (seqD b xs), .no, .no, .no] u = .nx [.val .urn, .val (seqD b xs), .own (.lst xs), .own (.lst []), .no] u := by
    have hs : small 0 = true := rfl
    simp [sSetM, mOwn, mNil, list_seq, isOb, hs, Dl.setMs, MD.slot]
  have e2 : dRng1 (dCons (dCall oLen (dCons (dVar 1) dNil)) dNil) [.val .urn, .val (seqD b xs), .own (.lst xs), .own (.lst []), .no] u = .ok (rngD 0 xs.length) u := by
    simp [dRng1, len_seq, o_rng (by omega : xs.length ≤ 100000)]
  unfold m__law_mixed b__law_mixed
  rw [x_runB, x_seq, show ρ0 5 [D.urn, seqD b xs] = [.val .urn, .val (seqD b xs), .no, .no, .no] from rfl, e1, x_seq1, x_seq, x_for, e2, x_then1, h1, x_seq1]
  simp [oTuple]
end Pr
set_option Elab.async false
set_option linter.all false
set_option maxRecDepth 100000
set_option maxHeartbeats 4000000
/-! Pl9: telling is an order. -/
namespace Pr
open PySem L2 Evl Dl
/-- a strict order, written out sorted -/
structure KO (ns : List Str) (told : Str → List Str) : Prop extends KG ns told where
  irr : ∀ x ∈ ns, x ∉ told x
  tr : ∀ x ∈ ns, ∀ y ∈ told x, ∀ z ∈ told y, z ∈ told x
  srt : ∀ x ∈ ns, told x = ns.filter fun y => decide (y ∈ told x)
section
variable {ns : List Str} {told : Str → List Str} {u : U}
theorem x_meth (c : Nat) (nm : Str) (m : DF) (dds : List D) (go : DE) (g : DA) (ρ : En) : dMeth c nm m dds go g ρ = bnd (go ρ) fun x => if isObj c nm x = true then bnd (g ρ) fun xs => m (x :: (xs ++ dds)) else stuck := rfl
theorem ob_tells : isObj 4 "tells" (keysD ns told) = true := by
  show (decide (4 = 4) && ((keysF ns told).lookup ("tells" : Str)).isNone) = true
  unfold keysF
  rw [List.lookup_cons, show (("tells" : Str) == "own_names") = false from by decide +kernel, List.lookup_cons, show (("tells" : Str) == "own_told") = false from by decide +kernel]
  rfl
theorem ob_told : isObj 4 "told" (keysD ns told) = true := by
  show (decide (4 = 4) && ((keysF ns told).lookup ("told" : Str)).isNone) = true
  unfold keysF
  rw [List.lookup_cons, show (("told" : Str) == "own_names") = false from by decide +kernel, List.lookup_cons, show (("told" : Str) == "own_told") = false from by decide +kernel]
  rfl
def propK (c : Nat) (m : DF) : D → M D := fun x => match x with
  | .obj c' gs => if c' = c then nx (m [.obj c' gs]) else stuck
  | _ => stuck
theorem x_prop (c : Nat) (m : DF) (go : DE) (ρ : En) : dProp c m go ρ = bnd (go ρ) (propK c m) := by
  unfold dProp propK
  congr 1
theorem prop_keys {m : DF} {d : D} {u' : U} (h : m [keysD ns told] u = .ok d u') : propK 4 m (keysD ns told) u = .ok d u' := by
  show (if 4 = 4 then nx (m [keysD ns told]) else stuck) u = _
  rw [if_pos rfl]
  exact nx_ok h
theorem pln_pr {p : Str × Str} (h1 : PyData.strOk p.1 = true) (h2 : PyData.strOk p.2 = true) : pln (tpD p) = true := by
  simp [tpD, pln, plns, h1, h2]
theorem plns_pr {ps : List (Str × Str)} (h : ∀ p ∈ ps, PyData.strOk p.1 = true ∧ PyData.strOk p.2 = true) : plns (ps.map tpD) = true := by
  induction ps with
  | nil => rfl
  | cons p ps ih =>
    rw [List.map_cons]
    unfold plns
    rw [pln_pr (h p List.mem_cons_self).1 (h p List.mem_cons_self).2, ih fun q hq => h q (List.mem_cons_of_mem _ hq)]; rfl
theorem deps_pr (ps : List (Str × Str)) : deps (ps.map tpD) ≤ 1 := by
  induction ps with
  | nil => exact Nat.zero_le _
  | cons p ps ih =>
    rw [List.map_cons]
    unfold deps
    have : dep (tpD p) = 1 := rfl
    omega
theorem tpD_inj {p q : Str × Str} : tpD p = tpD q ↔ p = q := by
  obtain ⟨a, b⟩ := p; obtain ⟨c, d⟩ := q
  simp [tpD]
theorem in_prs {p : Str × Str} {ps : List (Str × Str)} (hp : PyData.strOk p.1 = true ∧ PyData.strOk p.2 = true) (h : ∀ p ∈ ps, PyData.strOk p.1 = true ∧ PyData.strOk p.2 = true) : oIn (tpD p) (.tup (ps.map tpD)) = some (decide (p ∈ ps)) := by
  rw [oIn_tup (pln_pr hp.1 hp.2) (plns_pr h) (by show 1 ≤ 64; decide) (by have := deps_pr ps; omega)]
  have e : tpD p ∈ ps.map tpD ↔ p ∈ ps := by
    rw [List.mem_map]
    exact ⟨fun ⟨q, h1, h2⟩ => tpD_inj.mp h2 ▸ h1, fun h => ⟨p, h, rfl⟩⟩
  simp [e]
theorem KG.prs (k : KG ns told) : ∀ p ∈ pairsOf ns told, PyData.strOk p.1 = true ∧ PyData.strOk p.2 = true := fun p hp => by
  obtain ⟨h1, h2⟩ := mem_pairsOf.mp hp
  exact ⟨k.ok _ h1, k.ok _ (k.sub _ h1 _ h2)⟩
theorem KG.pair_in (k : KG ns told) {a b : Str} (ha : a ∈ ns) (hb : b ∈ ns) : oInD (.tup [.str a, .str b]) (.tup ((pairsOf ns told).map tpD)) = some (.bl (decide (b ∈ told a))) := by
  have e := in_prs (p := (a, b)) ⟨k.ok a ha, k.ok b hb⟩ k.prs
  have e2 : ((a, b) ∈ pairsOf ns told) ↔ b ∈ told a := by rw [mem_pairsOf]; exact ⟨fun h => h.2, fun h => ⟨ha, h⟩⟩
  unfold oInD
  rw [show (D.tup [.str a, .str b]) = tpD (a, b) from rfl, e]
  simp [e2]
theorem eq_tupS {as bs : List Str} (ha : okN as) (hb : okN bs) : oEq (.tup (sD as)) (.tup (sD bs)) = some (.bl (decide (as = bs))) := by
  rw [oEq_ok (by unfold pln; exact pln_sD ha) (by unfold pln; exact pln_sD hb) (by unfold dep; rw [deps_sD]; decide) (by unfold dep; rw [deps_sD]; decide)]
  simp [sD_inj]
theorem ne_tupS {as bs : List Str} (ha : okN as) (hb : okN bs) : oNe (.tup (sD as)) (.tup (sD bs)) = some (.bl (!decide (as = bs))) := by
  rw [oNe_ok (by unfold pln; exact pln_sD ha) (by unfold pln; exact pln_sD hb) (by unfold dep; rw [deps_sD]; decide) (by unfold dep; rw [deps_sD]; decide)]
  simp [sD_inj]
theorem ne_bl (a b : Bool) : oNe (.bl a) (.bl b) = some (.bl (!(a == b))) := by
  cases a <;> cases b <;> rfl
theorem eq_bl (a b : Bool) : oEq (.bl a) (.bl b) = some (.bl (a == b)) := by
  cases a <;> cases b <;> rfl
theorem eq_int (i j : Int) : oEq (.int i) (.int j) = some (.bl (decide (i = j))) := by
  rw [oEq_ok rfl rfl (by show 0 ≤ 64; decide) (by show 0 ≤ 64; decide)]
  simp
theorem all_map {α : Type} (p : α → Bool) (ys : List α) : oAll [.lst (ys.map fun z => D.bl (p z))] = some (.bl (ys.all p)) := by
  have hb : boolsD (ys.map fun z => D.bl (p z)) = some (ys.map p) := by
    induction ys with
    | nil => rfl
    | cons z l ih =>
      rw [List.map_cons]
      unfold boolsD
      rw [ih]; rfl
  show (boolsD (ys.map fun z => D.bl (p z))).map (fun bs => D.bl (bs.all id)) = _
  rw [hb, Option.map_some, List.all_map]; rfl
theorem sum_map {α : Type} (p : α → Nat) (ys : List α) : oSum [.lst (ys.map fun z => D.int (p z))] = some (.int ((ys.map p).sum : Nat)) := by
  have hb : intsD (ys.map fun z => D.int (p z)) = some (ys.map fun z => ((p z : Nat) : Int)) := by
    induction ys with
    | nil => rfl
    | cons z l ih =>
      rw [List.map_cons]
      unfold intsD
      rw [ih]; rfl
  have hs : ∀ l : List α, (l.map fun z => ((p z : Nat) : Int)).sum = (((l.map p).sum : Nat) : Int) := by
    intro l
    induction l with
    | nil => rfl
    | cons z l ih => rw [List.map_cons, List.map_cons, List.sum_cons, List.sum_cons, ih]; omega
  show (intsD (ys.map fun z => D.int (p z))).map (fun bs => D.int bs.sum) = _
  rw [hb, Option.map_some, hs]
theorem tru_bl (b : Bool) : tru (.bl b) = some b := rfl
end
end Pr

/-! Pl10: _law_same of the same. -/
namespace Dl
open PySem L2 Evl
mutual
def wid : D → Bool
  | .lst xs => decide (xs.length ≤ 1000) && wids xs | .tup xs => decide (xs.length ≤ 1000) && wids xs
  | .non => true | .int _ => true | .str _ => true | .bl _ => true | .dct _ => true | .obj _ _ => true | .exc _ _ => true | .urn => true
def wids : List D → Bool
  | [] => true
  | x :: xs => wid x && wids xs
end
theorem wids_mem : ∀ {xs : List D} {x : D}, wids xs = true → x ∈ xs → wid x = true
  | y :: ys, x, h, hx => by
    unfold wids at h
    rw [Bool.and_eq_true] at h
    rcases List.mem_cons.mp hx with e | e
    · rw [e]; exact h.1
    · exact wids_mem h.2 e
theorem plns_mem : ∀ {xs : List D} {x : D}, plns xs = true → x ∈ xs → pln x = true
  | y :: ys, x, h, hx => by
    unfold plns at h
    rw [Bool.and_eq_true] at h
    rcases List.mem_cons.mp hx with e | e
    · rw [e]; exact h.1
    · exact plns_mem h.2 e
theorem deps_mem : ∀ {xs : List D} {x : D}, x ∈ xs → dep x ≤ deps xs
  | y :: ys, x, hx => by
    unfold deps
    rcases List.mem_cons.mp hx with e | e
    · rw [e]; omega
    · have := deps_mem e; omega
theorem zip_self : ∀ xs : List D, zipD xs xs = xs.map fun x => .tup [x, x]
  | [] => rfl
  | x :: xs => by unfold zipD; rw [zip_self xs]; rfl
end Dl
namespace Pr
open PySem L2 Evl Dl
def isiD (tb : Ty → Option Bool) (x : D) : Option D := ((tyD x).bind tb).map .bl
theorem x_isi (tb : Ty → Option Bool) (f : DE) (ρ : En) : dIsi tb f ρ = bnd (f ρ) fun x => opt (isiD tb x) := rfl
theorem is_non (x : D) : oIs x .non = some (.bl (isNonD x)) := by cases x <;> rfl
theorem same_refl : ∀ (n : Nat) (x : D) (u : U), pln x = true → wid x = true → dep x < n → dep x ≤ 60 → r__law_same n [x, x] u = .ok (.bl true) u
  | 0, x, u, _, _, h, _ => absurd h (Nat.not_lt_zero _)
  | n + 1, x, u, hp, hw, hd, h60 => by
    have heq : oEq x x = some (.bl true) := by
      rw [oEq_ok hp hp (by omega) (by omega)]
      simp
    show runB 4 (b__law_same (r__law_same n)) [x, x] u = _
    cases x with
    | non =>
      have i1 : isiD tb_list_tuple .non = some (.bl false) := rfl
      have i2 : isiD tb_bool .non = some (.bl false) := rfl
      have i3 : isNonD .non = true := rfl
      unfold b__law_same
      simp [x_lendB, x_isi, i1, i2, i3, tru_bl, x_tst, is_non, heq, eq_bl, dAndV]
    | int i =>
      have i1 : isiD tb_list_tuple (.int i) = some (.bl false) := rfl
      have i2 : isiD tb_bool_str (.int i) = some (.bl false) := rfl
      have i3 : isNonD (.int i) = false := rfl
      have i4 : isiD tb_int (.int i) = some (.bl true) := rfl
      have i5 : isiD tb_bool (.int i) = some (.bl false) := rfl
      unfold b__law_same
      simp [x_lendB, x_isi, i1, i2, i3, i4, i5, tru_bl, x_tst, is_non, heq, eq_bl, dAndV, dNotV]
    | str s =>
      have i1 : isiD tb_list_tuple (.str s) = some (.bl false) := rfl
      have i2 : isiD tb_bool_str (.str s) = some (.bl true) := rfl
      have i3 : isNonD (.str s) = false := rfl
      have i5 : isiD tb_bool (.str s) = some (.bl false) := rfl
      unfold b__law_same
      simp [x_lendB, x_isi, i1, i2, i3, i5, tru_bl, x_tst, is_non, heq, eq_bl, dAndV]
    | bl b => simp [pln] at hp
    | dct _ => simp [pln] at hp
    | obj _ _ => simp [pln] at hp
    | exc _ _ => simp [pln] at hp
    | urn => simp [pln] at hp
    | lst xs =>
      unfold pln at hp
      unfold wid at hw
      rw [Bool.and_eq_true] at hw
      have hl := of_decide_eq_true hw.1
      have hde : dep (.lst xs) = deps xs + 1 := by unfold dep; rfl
      have i1 : isiD tb_list_tuple (.lst xs) = some (.bl true) := rfl
      have i2 : isiD tb_list (.lst xs) = some (.bl true) := rfl
      have i3 : isiD tb_tuple (.lst xs) = some (.bl false) := rfl
      have el := eq_int (xs.length : Int) (xs.length : Int)
      have hc := dLc_ok (u := u) (fun x => D.tup [x, x]) (fun _ => true) (fun _ => D.bl true) xs (fi := dZipA (dCons (dVar 0) (dCons (dVar 1) dNil))) (tg := .tp [2, 3]) (t := dYes) (e := dCallF (r__law_same n) [] (dCons (dVar 2) (dCons (dVar 3) dNil))) (vs := [2, 3]) (ρ := [.val (.lst xs), .val (.lst xs), .no, .no])
        (by simp [dZipA, oLs2A, zip_self]) (by omega) fun y hy => ⟨[.val (.lst xs), .val (.lst xs), .val y, .val y], rfl, rfl, fun _ => by
          have ih := same_refl n y u (plns_mem hp hy) (wids_mem hw.2 hy) (by have := deps_mem hy; omega) (by have := deps_mem hy; omega)
          simp [ih]⟩
      rw [List.filter_eq_self.mpr fun _ _ => rfl] at hc
      have ha := all_map (fun _ => true) xs
      rw [List.all_eq_true.mpr fun _ _ => rfl] at ha
      unfold b__law_same
      simp [x_lendB, x_isi, i1, i2, i3, tru_bl, x_tst, ne_bl, dAndV, oLen, el, hc, ha, List.replicate]
    | tup xs =>
      unfold pln at hp
      unfold wid at hw
      rw [Bool.and_eq_true] at hw
      have hl := of_decide_eq_true hw.1
      have hde : dep (.tup xs) = deps xs + 1 := by unfold dep; rfl
      have i1 : isiD tb_list_tuple (.tup xs) = some (.bl true) := rfl
      have i2 : isiD tb_list (.tup xs) = some (.bl false) := rfl
      have i3 : isiD tb_tuple (.tup xs) = some (.bl true) := rfl
      have el := eq_int (xs.length : Int) (xs.length : Int)
      have hc := dLc_ok (u := u) (fun x => D.tup [x, x]) (fun _ => true) (fun _ => D.bl true) xs (fi := dZipA (dCons (dVar 0) (dCons (dVar 1) dNil))) (tg := .tp [2, 3]) (t := dYes) (e := dCallF (r__law_same n) [] (dCons (dVar 2) (dCons (dVar 3) dNil))) (vs := [2, 3]) (ρ := [.val (.tup xs), .val (.tup xs), .no, .no])
        (by simp [dZipA, oLs2A, zip_self]) (by omega) fun y hy => ⟨[.val (.tup xs), .val (.tup xs), .val y, .val y], rfl, rfl, fun _ => by
          have ih := same_refl n y u (plns_mem hp hy) (wids_mem hw.2 hy) (by have := deps_mem hy; omega) (by have := deps_mem hy; omega)
          simp [ih]⟩
      rw [List.filter_eq_self.mpr fun _ _ => rfl] at hc
      have ha := all_map (fun _ => true) xs
      rw [List.all_eq_true.mpr fun _ _ => rfl] at ha
      unfold b__law_same
      simp [x_lendB, x_isi, i1, i2, i3, tru_bl, x_tst, ne_bl, dAndV, oLen, el, hc, ha, List.replicate]
end Pr
set_option Elab.async false
set_option linter.all false
set_option maxRecDepth 100000
set_option maxHeartbeats 4000000
/-! Pl12: what one telling more adds. -/
namespace Dl
open PySem L2 Evl
theorem sset_pw (ns : List Str) : (sset ns).Pairwise (fun a b => leS a b = true) := sortS_sorted _
theorem sset_perm {ns : List Str} (nd : ns.Nodup) : (sset ns).Perm ns := (List.perm_ext_iff_of_nodup (nodup_sset ns) nd).mpr fun _ => mem_sset
theorem sset_of_sorted {ns : List Str} (nd : ns.Nodup) (h : ns.Pairwise (fun a b => leS a b = true)) : sset ns = ns :=
  List.Perm.eq_of_pairwise (le := fun a b => leS a b = true) (fun a b _ _ => leS_antisymm) (sset_pw _) h (sset_perm nd)
theorem sset_filter {ns R : List Str} {p : Str → Bool} (hs : sset ns = ns) (h : ∀ y, y ∈ R ↔ y ∈ ns ∧ p y = true) : sset R = ns.filter p := by
  have nd : ns.Nodup := hs ▸ nodup_sset ns
  have pw : ns.Pairwise (fun a b => leS a b = true) := hs ▸ sset_pw ns
  have e : sset R = sset (ns.filter p) := sset_ext fun y => (h y).trans List.mem_filter.symm
  rw [e]
  exact sset_of_sorted (nd.filter p) (pw.filter p)
theorem sset_sset (ns : List Str) : sset (sset ns) = sset ns := sset_ext fun _ => mem_sset
end Dl
namespace Pr
open PySem L2 Evl Dl
section
variable {ns : List Str} {told : Str → List Str} {a b : Str} {u : U}
theorem nodup_filter_fst {x : Str} {told : Str → List Str} : ∀ {ns : List Str}, ns.Nodup → (dmOf (pairsOf ns told) x).length ≤ (told x).length
  | [], _ => Nat.zero_le _
  | n :: ns, nd => by
    obtain ⟨n1, n2⟩ := List.nodup_cons.mp nd
    have ih := nodup_filter_fst (x := x) (told := told) n2
    unfold dmOf pairsOf at ih ⊢
    rw [List.flatMap_cons, List.filter_append, List.map_append, List.length_append]
    by_cases e : n = x
    · subst e
      have h0 : ((ns.flatMap fun a => (told a).map fun b => (a, b)).filter fun p => decide (p.1 = n)) = [] := by
        rw [List.filter_eq_nil_iff]
        intro p hp h
        obtain ⟨y, hy, hz⟩ := List.mem_flatMap.mp hp
        obtain ⟨z, _, rfl⟩ := List.mem_map.mp hz
        have e : y = n := of_decide_eq_true h
        exact n1 (e ▸ hy)
      rw [h0]
      have : ((((told n).map fun b => (n, b)).filter fun p => decide (p.1 = n)).map (·.2)).length ≤ (told n).length := by
        rw [List.length_map]
        refine Nat.le_trans (List.length_filter_le _ _) ?_
        rw [List.length_map]; exact Nat.le_refl _
      simp only [List.map_nil, List.length_nil]
      omega
    · have h0 : (((told n).map fun b => (n, b)).filter fun p => decide (p.1 = x)) = [] := by
        rw [List.filter_eq_nil_iff]
        intro p hp h
        obtain ⟨z, _, rfl⟩ := List.mem_map.mp hp
        exact e (of_decide_eq_true h)
      rw [h0]
      simpa using ih
theorem pairs_len (k : KG ns told) (h5 : ns.length ≤ 5) : (pairsOf ns told).length ≤ 25 := by
  have : ∀ (l : List Str), (∀ x ∈ l, (told x).length ≤ 5) → (pairsOf l told).length ≤ 5 * l.length := by
    intro l
    induction l with
    | nil => intro _; exact Nat.zero_le _
    | cons x l ih =>
      intro h
      have ih := ih fun y hy => h y (List.mem_cons_of_mem _ hy)
      have hx := h x List.mem_cons_self
      unfold pairsOf at ih ⊢
      rw [List.flatMap_cons, List.length_append, List.length_map, List.length_cons]
      omega
  have := this ns fun x hx => Nat.le_trans (nodup_len (k.tnd x hx) fun y hy => k.sub x hx y hy) h5
  omega
theorem x_make (c : Nat) (mi : DFI) (dds : List D) (g : DA) (ρ : En) : dMake c mi dds g ρ = bnd (g ρ) fun xs => bnd (mi (xs ++ dds)) fun gs => ret (.obj c gs) := rfl
theorem wids_sD : ∀ ns : List Str, wids (sD ns) = true
  | [] => rfl
  | n :: ns => by
    have := wids_sD ns
    show (wid (.str n) && wids (sD ns)) = true
    rw [this]; rfl
theorem wid_sD {ns : List Str} (h : ns.length ≤ 1000) : wid (.lst (sD ns)) = true := by
  unfold wid sD
  rw [List.length_map, decide_eq_true h, show wids (ns.map D.str) = true from wids_sD ns]; rfl
theorem wids_pr : ∀ ps : List (Str × Str), wids (ps.map tpD) = true
  | [] => rfl
  | p :: ps => by
    have := wids_pr ps
    show (wid (tpD p) && wids (ps.map tpD)) = true
    rw [this]; rfl
theorem same_strs {ms : List Str} (h : okN ms) (hl : ms.length ≤ 1000) : m__law_same [.lst (sD ms), .lst (sD ms)] u = .ok (.bl true) u :=
  same_refl 6 _ u (by unfold pln; exact pln_sD h) (wid_sD hl) (by unfold dep; rw [deps_sD]; decide) (by unfold dep; rw [deps_sD]; decide)
theorem same_prs {ps : List (Str × Str)} (h : ∀ p ∈ ps, PyData.strOk p.1 = true ∧ PyData.strOk p.2 = true) (hl : ps.length ≤ 1000) : m__law_same [.tup (ps.map tpD), .tup (ps.map tpD)] u = .ok (.bl true) u :=
  same_refl 6 _ u (by unfold pln; exact plns_pr h) (by unfold wid; rw [List.length_map, decide_eq_true hl, wids_pr]; rfl) (by unfold dep; have := deps_pr ps; omega) (by unfold dep; have := deps_pr ps; omega)
end
end Pr
/-! Pl14: by hand; Keys of an order; the same Keys again. -/
namespace Pr
open PySem L2 Evl Dl
theorem Rch.trans {dm : Str → List Str} {x y z : Str} (h : Rch dm (dm x) y) (g : Rch dm (dm y) z) : Rch dm (dm x) z := by
  induction g with
  | base hz => exact .step h hz
  | step _ hz ih => exact .step ih hz
theorem Rch.rel {tl : List (Str × Str)} {R : Str → Str → Prop} (ht : ∀ x y z, R x y → R y z → R x z) (hR : ∀ p ∈ tl, R p.1 p.2) {x y : Str} (h : Rch (dmOf tl) (dmOf tl x) y) : R x y := by
  induction h with
  | base hy => exact hR _ (mem_dmOf.mp hy)
  | step _ hz ih => exact ht _ _ _ ih (hR _ (mem_dmOf.mp hz))
section
variable {ns nms : List Str} {told : Str → List Str} {tl : List (Str × Str)} {C : Nat} {u : U} {bn bt bp : Bool}
/-- Keys of tellings that go one way -/
theorem ko_of (R : Str → Str → Prop) (ht : ∀ x y z, R x y → R y z → R x z) (hirr : ∀ x, ¬ R x x) (hR : ∀ p ∈ tl, R p.1 p.2) (hok : okN ns) (hs : sset ns = ns) (hl : ns.length ≤ 60) (hv : ∀ p ∈ tl, p.1 ∈ ns ∧ p.2 ∈ ns) (hn : ("#" : Str) ∉ ns)
    (hC : ∀ x ∈ ns, (dmOf tl x).length ≤ C) (hB : C + C * ns.length < 64) : KO ns (clo (dmOf tl)) ∧ ∀ x ∈ ns, ∀ y, y ∈ clo (dmOf tl) x ↔ Rch (dmOf tl) (dmOf tl x) y := by
  have hdn : ∀ x ∈ ns, ∀ y ∈ dmOf tl x, y ∈ ns := fun x _ y hy => (hv _ (mem_dmOf.mp hy)).2
  have hc := fun x hx => clo_ok (x := x) hC hdn hx (Nat.le_refl _) hB
  have nd : ns.Nodup := hs ▸ nodup_sset ns
  refine ⟨{ ok := hok, nd := nd, len := hl, sub := fun x hx => (hc x hx).2.1, tnd := fun x hx => nodup_sset _, nh := hn, irr := fun x hx h => ?_, tr := fun x hx y hy z hz => ?_, srt := fun x hx => ?_ }, fun x hx => (hc x hx).1⟩
  · exact hirr x (Rch.rel ht hR (((hc x hx).1 x).mp h))
  · have hyn := (hc x hx).2.1 y hy
    exact ((hc x hx).1 z).mpr (Rch.trans (((hc x hx).1 y).mp hy) (((hc y hyn).1 z).mp hz))
  · have e : clo (dmOf tl) x = sset (clo (dmOf tl) x) := (sset_sset _).symm
    conv => lhs; rw [e]
    exact sset_filter hs fun y => ⟨fun h => ⟨(hc x hx).2.1 y h, decide_eq_true h⟩, fun h => of_decide_eq_true h.2⟩
theorem ring_none (k : KO ns told) : ringOf ns told = [] := by
  unfold ringOf
  rw [List.filter_eq_nil_iff]
  intro x hx h
  exact k.irr x hx (of_decide_eq_true h)
theorem dct_congr {v w : Str → D} (h : ∀ x ∈ ns, v x = w x) : dctD ns v = dctD ns w := by
  unfold dctD
  exact List.map_congr_left fun x hx => by rw [h x hx]
theorem keysF_congr {t1 t2 : Str → List Str} (h : ∀ x ∈ ns, t1 x = t2 x) : keysF ns t1 = keysF ns t2 := by
  unfold keysF
  rw [dct_congr fun x hx => by rw [h x hx]]
/-- made of its names (mentioned in any order, twice too) and its pairs in any order -/
theorem keys_again' (k : KO ns told) (h5 : ns.length ≤ 5) (hs : sset nms = ns) (hl : nms.length < 64) {ps : List (Str × Str)} (hp : ps.Perm (pairsOf ns told)) : i_Keys_D_initD_ [seqD bn (sD nms), seqD bt (ps.map (prB bp))] u = .ok (keysF ns told) u := by
  have kg := k.toKG
  have hs2 : sset ns = ns := by rw [← hs]; exact sset_sset nms
  have hv : ∀ p ∈ ps, p.1 ∈ ns ∧ p.2 ∈ ns := fun p h => by
    obtain ⟨h1, h2⟩ := mem_pairsOf.mp (hp.mem_iff.mp h)
    exact ⟨h1, kg.sub _ h1 _ h2⟩
  have hmn : ∀ x, x ∈ nms ↔ x ∈ ns := fun x => by rw [← hs]; exact mem_sset.symm
  have hdeg : ∀ x ∈ ns, (dmOf ps x).length ≤ 5 := fun x hx => by
    have e : (dmOf ps x).length = (dmOf (pairsOf ns told) x).length := by
      unfold dmOf
      rw [List.length_map, List.length_map]
      exact (hp.filter _).length_eq
    rw [e]
    exact Nat.le_trans (nodup_filter_fst kg.nd) (Nat.le_trans (nodup_len (kg.tnd x hx) fun y hy => kg.sub x hx y hy) h5)
  have hB : ∀ m, m ≤ 5 → 5 + 5 * m < 64 := by decide
  have hB := hB ns.length h5
  have hmem : ∀ x ∈ ns, ∀ y, y ∈ dmOf ps x ↔ y ∈ told x := fun x hx y => by
    rw [mem_dmOf, hp.mem_iff, mem_pairsOf]
    exact ⟨fun h => h.2, fun h => ⟨hx, h⟩⟩
  have hdn : ∀ x ∈ ns, ∀ y ∈ dmOf ps x, y ∈ ns := fun x _ y hy => (hv _ (mem_dmOf.mp hy)).2
  have hrch : ∀ x ∈ ns, ∀ y, Rch (dmOf ps) (dmOf ps x) y ↔ y ∈ told x := fun x hx y => by
    constructor
    · intro h
      have : y ∈ ns ∧ y ∈ told x := by
        induction h with
        | base hy => exact ⟨hdn x hx _ hy, (hmem x hx _).mp hy⟩
        | @step y z _ hz ih => exact ⟨hdn y ih.1 z hz, k.tr x hx y ih.2 z ((hmem y ih.1 z).mp hz)⟩
      exact this.2
    · intro h
      exact .base ((hmem x hx y).mpr h)
  have heq : ∀ x ∈ ns, clo (dmOf ps) x = told x := fun x hx => by
    have hc := (clo_ok (x := x) hdeg hdn hx (Nat.le_refl _) hB).1
    have e : clo (dmOf ps) x = sset (clo (dmOf ps) x) := (sset_sset _).symm
    rw [e, k.srt x hx]
    exact sset_filter hs2 fun y => by
      rw [hc y, hrch x hx y, decide_eq_true_iff]
      exact ⟨fun h => ⟨kg.sub x hx y h, h⟩, fun h => h.2⟩
  have hring : ringOf ns (clo (dmOf ps)) = [] := by
    unfold ringOf
    rw [List.filter_eq_nil_iff]
    intro x hx h
    have h := of_decide_eq_true h
    rw [heq x hx] at h
    exact k.irr x hx h
  have e := init_spec (bn := bn) (bt := bt) (bp := bp) (nms := nms) (tl := ps) (C := 5) (u := u) (okN_sub kg.ok fun x hx => (hmn x).mp hx) (fun p hp => ⟨kg.ok _ (hv p hp).1, kg.ok _ (hv p hp).2⟩) (fun p hp => ⟨(hmn _).mpr (hv p hp).1, (hmn _).mpr (hv p hp).2⟩) hl (fun x hx => hdeg x (by rw [hs] at hx; exact hx)) (by rw [hs]; exact hB) (by rw [hp.length_eq]; have := pairs_len kg h5; omega)
  rw [hs, hring, if_pos rfl, keysF_congr heq] at e
  exact e
theorem keys_again (k : KO ns told) (h5 : ns.length ≤ 5) (hs : sset ns = ns) {ps : List (Str × Str)} (hp : ps.Perm (pairsOf ns told)) : i_Keys_D_initD_ [.tup (sD ns), .tup (ps.map tpD)] u = .ok (keysF ns told) u :=
  keys_again' (bn := true) (bt := true) (bp := true) k h5 hs (by omega) hp
end
end Pr
set_option Elab.async false
set_option linter.all false
set_option maxRecDepth 100000
set_option maxHeartbeats 4000000
/-! Pl15: _law_book, its loops. -/
namespace Pr
open PySem L2 Evl Dl
def tri : Nat → Nat
  | 0 => 0
  | m + 1 => m + tri m
/-- the inner loop's body -/
def bkB : DS := (sIf (dAndB (dTst (dOp oGt (dVar 5) (dC (.int 0)))) (dTst (dOp oEq (dCallF m__law_take [] (dCons (dVar 0) (dCons (dC (.int 4)) dNil))) (dC (.int 0))))) (sOm 4 oApp (dCons (dIf (dTst (dOp oEq (dVar 5) (dC (.int 1)))) (dTup (dCons (dVar 7) (dCons (dVar 8) dNil))) (dTup (dCons (dVar 8) (dCons (dVar 7) dNil)))) dNil)) sNx)
def bkE (pool : List D) (ns : List Str) (acc : List (Str × Str)) (st : Int) (c d e : Slot) : En := [.val .urn, .val (.int 5), .val (.lst pool), .val (.lst (sD ns)), .own (.lst (acc.map tpD)), .val (.int st), c, d, e]
/-- which way the pairs of a style go -/
def stR (st : Int) (x y : Str) : Prop := if st = 1 then leS x y = true ∧ x ≠ y else leS y x = true ∧ y ≠ x
theorem stR_trans (st : Int) (x y z : Str) (h : stR st x y) (g : stR st y z) : stR st x z := by
  unfold stR at *
  split at h <;> simp_all
  · exact ⟨leS_trans h.1 g.1, fun e => by subst e; exact g.2 (leS_antisymm g.1 h.1)⟩
  · exact ⟨leS_trans g.1 h.1, fun e => by subst e; exact h.2 (leS_antisymm h.1 g.1)⟩
theorem stR_irr (st : Int) (x : Str) : ¬ stR st x x := by
  unfold stR
  split <;> simp
theorem bk_body {pool : List D} {ns : List Str} {acc : List (Str × Str)} {st : Int} {c : Slot} {x y : Str} {n : Nat} {u : U} (g : GU (n + 1) u) (hac : acc.length ≤ 1000) (hc : ∀ d, c ≠ .own d) :
    ∃ acc' u', bkB (bkE pool ns acc st c (.val (.str x)) (.val (.str y))) u = .nx (bkE pool ns acc' st c (.val (.str x)) (.val (.str y))) u' ∧ GU n u' ∧ (acc' = acc ∨ acc' = acc ++ [if st = 1 then (x, y) else (y, x)]) := by
  have hfz : frz (bkE pool ns acc st c (.val (.str x)) (.val (.str y))) = [.val .urn, .val (.int 5), .val (.lst pool), .val (.lst (sD ns)), .val (.lst (acc.map tpD)), .val (.int st), c, .val (.str x), .val (.str y)] := by
    unfold bkE
    cases c with
    | no => rfl
    | val d => rfl
    | own d => exact absurd rfl (hc d)
  unfold bkB
  rw [x_if]
  by_cases hs : 0 < st
  · obtain ⟨r, u', e1, r0, r1, g'⟩ := take_spec (m := 4) g (by decide) (by decide)
    have t : lendB (dAndB (dTst (dOp oGt (dVar 5) (dC (.int 0)))) (dTst (dOp oEq (dCallF m__law_take [] (dCons (dVar 0) (dCons (dC (.int 4)) dNil))) (dC (.int 0))))) (bkE pool ns acc st c (.val (.str x)) (.val (.str y))) u = .ok (decide (r = 0)) u' := by
      refine x_lendB_ok ?_
      rw [hfz]
      simp [x_tst, o_gt, hs, e1, eq_int]
    rw [t, x_then1]
    by_cases hr : r = 0
    · refine ⟨acc ++ [if st = 1 then (x, y) else (y, x)], u', ?_, g', .inr rfl⟩
      rw [if_pos (decide_eq_true hr)]
      have hsm : small acc.length = true := by unfold small; exact decide_eq_true (by omega)
      have s2 : small 2 = true := rfl
      have ei := eq_int st 1
      unfold sOm bkE
      by_cases h1 : st = 1
      · subst h1
        simp [x_tst, ei, s2, oApp, hsm, tpD]
      · simp [x_tst, ei, h1, s2, oApp, hsm, tpD]
    · refine ⟨acc, u', ?_, g', .inl rfl⟩
      rw [if_neg (by simp [hr])]
      rfl
  · refine ⟨acc, u, ?_, g.le (by omega), .inl rfl⟩
    have t : lendB (dAndB (dTst (dOp oGt (dVar 5) (dC (.int 0)))) (dTst (dOp oEq (dCallF m__law_take [] (dCons (dVar 0) (dCons (dC (.int 4)) dNil))) (dC (.int 0))))) (bkE pool ns acc st c (.val (.str x)) (.val (.str y))) u = .ok false u := by
      refine x_lendB_ok ?_
      rw [hfz]
      simp [x_tst, o_gt, hs]
    rw [t, x_then1, if_neg (by decide)]
    rfl
theorem bk_inner {pool : List D} {ns : List Str} {st : Int} {c : Slot} {x : Str} {n : Nat} (hc : ∀ d, c ≠ .own d) : ∀ (ys : List Str) (acc : List (Str × Str)) (e : Slot) (u : U), GU (n + ys.length) u → acc.length + ys.length ≤ 1000 →
    ∃ acc' e' u', forGo (.nm 8) bkB (sD ys) (bkE pool ns acc st c (.val (.str x)) e) u = .nx (bkE pool ns acc' st c (.val (.str x)) e') u' ∧ GU n u' ∧ acc'.length ≤ acc.length + ys.length ∧ (∀ p ∈ acc', p ∈ acc ∨ ∃ y ∈ ys, p = if st = 1 then (x, y) else (y, x)) ∧ ∃ zs : List Str, zs.Sublist ys ∧ acc' = acc ++ zs.map fun y => if st = 1 then (x, y) else (y, x)
  | [], acc, e, u, g, _ => ⟨acc, e, u, rfl, g, Nat.le_refl _, fun p hp => .inl hp, [], List.Sublist.refl _, by simp⟩
  | y :: ys, acc, e, u, g, hl => by
    have g1 : GU (n + ys.length + 1) u := g
    rw [List.length_cons] at hl
    obtain ⟨acc1, u1, h1, g2, ha⟩ := bk_body (pool := pool) (ns := ns) (acc := acc) (st := st) (c := c) (x := x) (y := y) g1 (by omega) hc
    have hl1 : acc1.length ≤ acc.length + 1 := by
      rcases ha with rfl | rfl
      · omega
      · rw [List.length_append, List.length_singleton]; exact Nat.le_refl _
    obtain ⟨acc2, e2, u2, h2, g3, hl2, hp2, zs2, hz2, ez2⟩ := bk_inner (pool := pool) (ns := ns) (st := st) (c := c) (x := x) (n := n) hc ys acc1 (.val (.str y)) u1 g2 (by omega)
    refine ⟨acc2, e2, u2, ?_, g3, by rw [List.length_cons]; omega, fun p hp => ?_, ?_⟩
    rotate_right
    · rcases ha with rfl | rfl
      · exact ⟨zs2, hz2.cons y, ez2⟩
      · exact ⟨y :: zs2, hz2.cons₂ y, by rw [ez2, List.append_assoc]; rfl⟩
    · show forGo (.nm 8) bkB (.str y :: sD ys) _ u = _
      unfold forGo
      rw [bindT_nm]
      have es : (bkE pool ns acc st c (.val (.str x)) e).set 8 (.val (.str y)) = bkE pool ns acc st c (.val (.str x)) (.val (.str y)) := rfl
      rw [es]
      dsimp only
      rw [h1]
      exact h2
    · rcases hp2 p hp with h | ⟨z, hz, e⟩
      · rcases ha with rfl | rfl
        · exact .inl h
        · rcases List.mem_append.mp h with h | h
          · exact .inl h
          · exact .inr ⟨y, List.mem_cons_self, List.mem_singleton.mp h⟩
      · exact .inr ⟨z, List.mem_cons_of_mem _ hz, e⟩
/-- the outer loop's body -/
def bkO : DS := (sFor (dItems (dSl (dVar 3) (dPart (dOp oAdd (dVar 6) (dC (.int 1)))) dNoPart)) (.nm 8) bkB)
theorem cutD_from (ns : List Str) (k : Nat) (h : k ≤ ns.length) : cutD (sD ns) (some ((k : Nat) : Int)) none = sD (ns.drop k) := by
  unfold cutD sD
  rw [HT.sIx_none, HT.sIx_nat, List.length_map, Nat.min_eq_left h, List.map_drop, List.take_of_length_le (by rw [List.length_drop, List.length_map]; exact Nat.le_refl _)]
theorem bk_outer {pool : List D} {st : Int} {n : Nat} {ns : List Str} (hl : ns.length ≤ 60) (hpw : ∀ i j, (h : i < j) → (hj : j < ns.length) → stR 1 (ns[i]'(Nat.lt_trans h hj)) ns[j]) : ∀ (m i : Nat) (acc : List (Str × Str)) (c d e : Slot) (u : U), i + m = ns.length → GU (n + tri m) u → acc.length + tri m ≤ 1000 → (∀ d, c ≠ .own d) →
    (∀ p ∈ acc, p.1 ∈ ns ∧ p.2 ∈ ns ∧ stR st p.1 p.2) → (acc.Nodup ∧ ∀ p ∈ acc, ∃ j, ∃ h : j < ns.length, j < i ∧ (if st = 1 then p.1 else p.2) = ns[j]) →
    ∃ acc' c' d' e' u', forGo (.tp [6, 7]) bkO (enumD i (sD (ns.drop i))) (bkE pool ns acc st c d e) u = .nx (bkE pool ns acc' st c' d' e') u' ∧ GU n u' ∧ acc'.length ≤ acc.length + tri m ∧ (∀ p ∈ acc', p.1 ∈ ns ∧ p.2 ∈ ns ∧ stR st p.1 p.2) ∧ acc'.Nodup
  | 0, i, acc, c, d, e, u, hi, g, _, _, hp, hnd => by
    rw [List.drop_of_length_le (by omega)]
    exact ⟨acc, c, d, e, u, rfl, g, Nat.le_refl _, hp, hnd.1⟩
  | m + 1, i, acc, c, d, e, u, hi, g, ha, hc, hp, hnd => by
    have hil : i < ns.length := by omega
    have hdr : ns.drop i = ns[i] :: ns.drop (i + 1) := List.drop_eq_getElem_cons hil
    have hlen : (ns.drop (i + 1)).length = m := by rw [List.length_drop]; omega
    have ht : tri (m + 1) = m + tri m := rfl
    rw [ht] at g ha
    have g1 : GU (n + tri m + (ns.drop (i + 1)).length) u := by rw [hlen]; exact g.le (by omega)
    obtain ⟨acc1, e1, u1, h1, g2, hl1, hp1, zs1, hz1, ez1⟩ := bk_inner (pool := pool) (ns := ns) (st := st) (c := .val (.int (i : Nat))) (x := ns[i]) (by intro d h; cases h) (ns.drop (i + 1)) acc e u g1 (by rw [hlen]; omega)
    have hp2 : ∀ p ∈ acc1, p.1 ∈ ns ∧ p.2 ∈ ns ∧ stR st p.1 p.2 := fun p h => by
      rcases hp1 p h with h | ⟨y, hy, rfl⟩
      · exact hp p h
      · obtain ⟨k, hk, ek⟩ := List.mem_iff_getElem.mp hy
        rw [List.length_drop] at hk
        rw [List.getElem_drop] at ek
        have hr := hpw i (i + 1 + k) (by omega) (by omega)
        rw [ek] at hr
        have hxn : ns[i] ∈ ns := List.getElem_mem hil
        have hyn : y ∈ ns := List.mem_of_mem_drop hy
        unfold stR at hr
        rw [if_pos rfl] at hr
        by_cases h1 : st = 1
        · rw [if_pos h1]; exact ⟨hxn, hyn, by unfold stR; rw [if_pos h1]; exact hr⟩
        · rw [if_neg h1]; exact ⟨hyn, hxn, by unfold stR; rw [if_neg h1]; exact hr⟩
    have hnn : ns.Nodup := by
      rw [List.nodup_iff_pairwise_ne, List.pairwise_iff_getElem]
      intro a b ha hb hab e
      have := hpw a b hab hb
      rw [e] at this
      exact stR_irr 1 _ this
    have hfst : ∀ y, (if st = 1 then (if st = 1 then (ns[i], y) else (y, ns[i])).1 else (if st = 1 then (ns[i], y) else (y, ns[i])).2) = ns[i] := fun y => by
      by_cases h1 : st = 1 <;> simp [h1]
    have hinj : ∀ y z, (if st = 1 then (ns[i], y) else (y, ns[i])) = (if st = 1 then (ns[i], z) else (z, ns[i])) → y = z := fun y z e => by
      by_cases h1 : st = 1
      · simp [h1] at e; exact e
      · simp [h1] at e; exact e
    have hnd1 : acc1.Nodup ∧ ∀ p ∈ acc1, ∃ j, ∃ h : j < ns.length, j < i + 1 ∧ (if st = 1 then p.1 else p.2) = ns[j] := by
      rw [ez1]
      refine ⟨List.nodup_append.mpr ⟨hnd.1, ?_, fun p hp q hq e => ?_⟩, fun p hp => ?_⟩
      · have hzn : zs1.Nodup := (hnn.sublist (List.drop_sublist _ _)).sublist hz1
        exact List.Pairwise.map _ (fun a b hab e => hab (hinj a b e)) hzn
      · obtain ⟨j, hj, hji, ej⟩ := hnd.2 p hp
        obtain ⟨y, _, rfl⟩ := List.mem_map.mp hq
        subst e
        rw [hfst y] at ej
        have := (List.getElem_inj hnn).mp ej
        omega
      · rcases List.mem_append.mp hp with h | h
        · obtain ⟨j, hj, hji, ej⟩ := hnd.2 p h
          exact ⟨j, hj, by omega, ej⟩
        · obtain ⟨y, _, rfl⟩ := List.mem_map.mp h
          exact ⟨i, hil, by omega, hfst y⟩
    obtain ⟨acc2, c2, d2, e2, u2, h2, g3, hl2, hp3, hnd2⟩ := bk_outer (pool := pool) (st := st) (n := n) (ns := ns) hl hpw m (i + 1) acc1 (.val (.int (i : Nat))) (.val (.str ns[i])) e1 u1 (by omega) g2 (by rw [hlen] at hl1; omega) (by intro d h; cases h) hp2 hnd1
    refine ⟨acc2, c2, d2, e2, u2, ?_, g3, by rw [ht]; rw [hlen] at hl1; omega, hp3, hnd2⟩
    rw [hdr]
    show forGo (.tp [6, 7]) bkO (.tup [.int (i : Nat), .str ns[i]] :: enumD (i + 1) (sD (ns.drop (i + 1)))) _ u = _
    unfold forGo
    have hb : bindT (.tp [6, 7]) (.tup [.int (i : Nat), .str ns[i]]) (bkE pool ns acc st c d e) = some (bkE pool ns acc st (.val (.int (i : Nat))) (.val (.str ns[i])) e) := rfl
    rw [hb]
    dsimp only
    have hit : dItems (dSl (dVar 3) (dPart (dOp oAdd (dVar 6) (dC (.int 1)))) dNoPart) (bkE pool ns acc st (.val (.int (i : Nat))) (.val (.str ns[i])) e) u = .ok (sD (ns.drop (i + 1))) u := by
      have hc := cutD_from ns (i + 1) hil
      have hc2 : oSl (.lst (sD ns)) (some ((i : Nat) + 1 : Int)) none = some (.lst (sD (ns.drop (i + 1)))) := by
        show some (D.lst (cutD (sD ns) (some ((i : Nat) + 1 : Int)) none)) = _
        rw [show (((i : Nat) : Int) + 1) = ((i + 1 : Nat) : Int) from rfl, hc]
      unfold dItems dSl dPart dNoPart bkE
      simp [o_add, hc2, itemsD]
    unfold bkO
    rw [x_for, hit, x_then1, h1]
    exact h2
end Pr

/-! Pl16: _law_book. -/
namespace Pr
open PySem L2 Evl Dl
def pool7 : List Str := ["a", "city", "item", "lot", "shop", "user", "zzzzzzzz"]
def unS : D → Str
  | .str s => s
  | _ => "a"
theorem perm_sD {zs : List D} {ps : List Str} (h : zs.Perm (sD ps)) : ∃ qs : List Str, zs = sD qs ∧ qs.Perm ps := by
  refine ⟨zs.map unS, ?_, ?_⟩
  · unfold sD
    rw [List.map_map]
    symm
    rw [List.map_congr_left (g := id), List.map_id]
    intro z hz
    obtain ⟨s, _, rfl⟩ := List.mem_map.mp (h.mem_iff.mp hz)
    rfl
  · have := h.map unS
    unfold sD at this
    rw [List.map_map] at this
    have e : ps.map (unS ∘ D.str) = ps := by
      rw [List.map_congr_left (g := id), List.map_id]
      intro s _; rfl
    rw [e] at this
    exact this
theorem sorted_sD {xs : List Str} (h : xs.length < 64) : oSorted [.lst (sD xs)] = some (.lst (sD (sortS xs))) := by
  show (if (sD xs).length < 64 then ((strsD (sD xs)).map fun ss => D.lst ((sortS ss).map .str)).or ((intsD (sD xs)).map fun ns => .lst ((sortI ns).map .int)) else none) = _
  rw [if_pos (by unfold sD; rw [List.length_map]; exact h), strsD_sD]; rfl
theorem cutD_to (xs : List Str) (k : Nat) (h : k ≤ xs.length) : cutD (sD xs) none (some ((k : Nat) : Int)) = sD (xs.take k) := by
  unfold cutD sD
  rw [HT.sIx_none, HT.sIx_nat, List.length_map, Nat.min_eq_left h, List.drop_zero, Nat.sub_zero, List.map_take]
/-- what a book holds -/
structure BookOk (ns : List Str) (tl : List (Str × Str)) : Prop where
  ok : ∀ x ∈ ns, x ∈ pool7
  srt : sset ns = ns
  len : ns.length ≤ 5
  ne : ns ≠ []
  pr : ∃ st, ∀ p ∈ tl, p.1 ∈ ns ∧ p.2 ∈ ns ∧ stR st p.1 p.2
  tln : tl.length ≤ 10
  tnd : tl.Nodup
theorem book_spec {n : Nat} {u : U} (g : GU (n + 30) u) : ∃ ns tl u', m__law_book [.urn, .int 5] u = .ok (.tup [.tup (sD ns), .tup (tl.map tpD)]) u' ∧ GU n u' ∧ BookOk ns tl := by
  have hp7 : pool7.length = 7 := rfl
  obtain ⟨zs, u1, e1, pz, g1⟩ := mixed_spec (b := false) (xs := sD pool7) (n := n + 23) (u := u) (by unfold sD; rw [List.length_map, hp7]; decide) (by unfold sD; rw [List.length_map, hp7]; exact g)
  obtain ⟨qs, rfl, pq⟩ := perm_sD pz
  have hq7 : qs.length = 7 := pq.length_eq.trans hp7
  obtain ⟨r, u2, e2, r0, r1, g2⟩ := take_spec (m := 5) (n := n + 22) g1 (by decide) (by decide)
  obtain ⟨st, u3, e3, st0, st1, g3⟩ := take_spec (m := 3) (n := n + 21) g2 (by decide) (by decide)
  obtain ⟨k, hk⟩ : ∃ k : Nat, (k : Int) = 1 + r := ⟨(1 + r).toNat, by omega⟩
  have hk5 : k ≤ 5 := by omega
  have ndq : qs.Nodup := pq.nodup_iff.mpr (by decide +kernel)
  have hns : (sortS (qs.take k)).Perm (qs.take k) := sortS_perm _
  have hnl : (sortS (qs.take k)).length = k := by rw [hns.length_eq, List.length_take]; omega
  have hnd : (sortS (qs.take k)).Nodup := hns.nodup_iff.mpr (ndq.sublist (List.take_sublist _ _))
  have hpw := sortS_sorted (qs.take k)
  have hrel : ∀ i j, (h : i < j) → (hj : j < (sortS (qs.take k)).length) → stR 1 ((sortS (qs.take k))[i]'(Nat.lt_trans h hj)) (sortS (qs.take k))[j] := fun i j h hj => by
    unfold stR
    rw [if_pos rfl]
    refine ⟨List.pairwise_iff_getElem.mp hpw i j _ hj h, fun e => ?_⟩
    have := List.pairwise_iff_getElem.mp hnd i j (Nat.lt_trans h hj) hj h
    exact this e
  have htri : tri k ≤ 10 := by
    have : ∀ k, k ≤ 5 → tri k ≤ 10 := by decide
    exact this k hk5
  obtain ⟨acc, c', d', e', u4, h4, g4, hl4, hp4, hnd4⟩ := bk_outer (pool := sD qs) (st := st) (n := n) (ns := sortS (qs.take k)) (by omega) hrel k 0 [] .no .no .no u3 (by omega) (g3.le (by omega)) (by show 0 + tri k ≤ 1000; omega) (by intro d h; cases h) (by intro p h; cases h) ⟨List.nodup_nil, by intro p h; cases h⟩
  refine ⟨sortS (qs.take k), acc, u4, ?_, g4, ⟨fun x hx => pq.mem_iff.mp (List.mem_of_mem_take (hns.mem_iff.mp hx)), sset_of_sorted hnd hpw, by omega, (fun e => by rw [e] at hnl; simp at hnl; omega), ⟨st, hp4⟩, by have : acc.length ≤ 0 + tri k := hl4; omega, hnd4⟩⟩
  have hl0 : ∀ ρ, (dLst (dCons (dC (.str "a")) (dCons (dC (.str "city")) (dCons (dC (.str "item")) (dCons (dC (.str "lot")) (dCons (dC (.str "shop")) (dCons (dC (.str "user")) (dCons (dC (.str "zzzzzzzz")) dNil)))))))) ρ u = .ok (seqD false (sD pool7)) u := fun _ => rfl
  have f1 : sSet 2 (dCall oList (dCons (dCallF m__law_mixed [] (dCons (dVar 0) (dCons (dLst (dCons (dC (.str "a")) (dCons (dC (.str "city")) (dCons (dC (.str "item")) (dCons (dC (.str "lot")) (dCons (dC (.str "shop")) (dCons (dC (.str "user")) (dCons (dC (.str "zzzzzzzz")) dNil)))))))) dNil))) dNil)) [.val .urn, .val (.int 5), .no, .no, .no, .no, .no, .no, .no] u = .nx [.val .urn, .val (.int 5), .val (.lst (sD qs)), .no, .no, .no, .no, .no, .no] u1 := by
    rw [x_set, x_call]
    simp only [x_bnd, x_cons, x_callF, x_var, x_getV0, x_opt1, hl0, x_nil, x_retM, List.append_nil, e1, oList, x_then1]
    rfl
  have f2 : sSetM [3, 4, 5] (mVal (dCall oSorted (dCons (dLc (dItems (dSl (dVar 2) dNoPart (dPart (dOp oAdd (dC (.int 1)) (dCallF m__law_take [] (dCons (dVar 0) (dCons (dVar 1) dNil))))))) (.nm 7) dYes (dCall oStr (dCons (dVar 7) dNil)) [7]) dNil)) (mOwn (dLst dNil) (mVal (dCallF m__law_take [] (dCons (dVar 0) (dCons (dC (.int 3)) dNil))) mNil))) [.val .urn, .val (.int 5), .val (.lst (sD qs)), .no, .no, .no, .no, .no, .no] u1 = .nx (bkE (sD qs) (sortS (qs.take k)) [] st .no .no .no) u3 := by
    have hcut : oSl (.lst (sD qs)) none (some (1 + r)) = some (.lst (sD (qs.take k))) := by
      show some (D.lst (cutD (sD qs) none (some (1 + r)))) = _
      rw [← hk, cutD_to qs k (by omega)]
    have hit : dItems (dSl (dVar 2) dNoPart (dPart (dOp oAdd (dC (.int 1)) (dCallF m__law_take [] (dCons (dVar 0) (dCons (dVar 1) dNil)))))) [.val .urn, .val (.int 5), .val (.lst (sD qs)), .no, .no, .no, .no, .no, .no] u1 = .ok (sD (qs.take k)) u2 := by
      unfold dItems dSl dPart dNoPart
      simp [e2, o_add, hcut, itemsD]
    have hlc : dLc (dItems (dSl (dVar 2) dNoPart (dPart (dOp oAdd (dC (.int 1)) (dCallF m__law_take [] (dCons (dVar 0) (dCons (dVar 1) dNil))))))) (.nm 7) dYes (dCall oStr (dCons (dVar 7) dNil)) [7] [.val .urn, .val (.int 5), .val (.lst (sD qs)), .no, .no, .no, .no, .no, .no] u1 = .ok (.lst (sD (qs.take k))) u2 := by
      have hm := lcGo_map D.str (fun _ => true) D.str (tg := .nm 7) (t := dYes) (e := dCall oStr (dCons (dVar 7) dNil)) (ρ := wipeE [.val .urn, .val (.int 5), .val (.lst (sD qs)), .no, .no, .no, .no, .no, .no] [7]) (u := u2) (qs.take k) fun y hy => ⟨_, bindT_nm _ _ _, rfl, fun _ => rfl⟩
      rw [List.filter_eq_self.mpr fun _ _ => rfl] at hm
      have hsm : small (sD (qs.take k)).length = true := by
        unfold small sD
        rw [List.length_map, List.length_take]
        exact decide_eq_true (by omega)
      unfold dLc
      rw [x_bnd, hit]
      simp only [x_bnd, hsm, x_chk, x_opt1, x_retM]
      rw [show (sD (qs.take k)) = (qs.take k).map D.str from rfl, hm]
    have hso := sorted_sD (xs := qs.take k) (by rw [List.length_take]; omega)
    have hso2 : oSorted [.lst (List.take k (List.map D.str qs))] = some (.lst (sD (sortS (qs.take k)))) := by rw [← List.map_take]; exact hso
    have s0 : small 0 = true := rfl
    unfold sSetM
    simp [mVal, mOwn, mNil, hlc, hso2, s0, isOb, e3, Dl.setMs, MD.slot, bkE]
  unfold m__law_book
  have hb : b__law_book = sSeq (sSet 2 (dCall oList (dCons (dCallF m__law_mixed [] (dCons (dVar 0) (dCons (dLst (dCons (dC (.str "a")) (dCons (dC (.str "city")) (dCons (dC (.str "item")) (dCons (dC (.str "lot")) (dCons (dC (.str "shop")) (dCons (dC (.str "user")) (dCons (dC (.str "zzzzzzzz")) dNil)))))))) dNil))) dNil))) (sSeq (sSetM [3, 4, 5] (mVal (dCall oSorted (dCons (dLc (dItems (dSl (dVar 2) dNoPart (dPart (dOp oAdd (dC (.int 1)) (dCallF m__law_take [] (dCons (dVar 0) (dCons (dVar 1) dNil))))))) (.nm 7) dYes (dCall oStr (dCons (dVar 7) dNil)) [7]) dNil)) (mOwn (dLst dNil) (mVal (dCallF m__law_take [] (dCons (dVar 0) (dCons (dC (.int 3)) dNil))) mNil)))) (sSeq (sFor (dEnum (dCons (dVar 3) dNil)) (.tp [6, 7]) bkO) (sRet (dTup (dCons (dCall oTuple (dCons (dVar 3) dNil)) (dCons (dCall oTuple (dCons (dVar 4) dNil)) dNil)))))) := rfl
  rw [x_runB, hb, show ρ0 9 [D.urn, .int 5] = [.val .urn, .val (.int 5), .no, .no, .no, .no, .no, .no, .no] from rfl, x_seq, f1, x_seq1, x_seq, f2, x_seq1, x_seq, x_for]
  have f3 : dEnum (dCons (dVar 3) dNil) (bkE (sD qs) (sortS (qs.take k)) [] st .no .no .no) u3 = .ok (enumD 0 (sD (sortS (qs.take k)))) u3 := rfl
  rw [List.drop_zero] at h4
  rw [f3, x_then1, h4, x_seq1]
  have s2 : small 2 = true := rfl
  unfold bkE
  simp [oTuple, s2]
end Pr

/-! Pl17: Keys are equal to themselves. -/
namespace Pr
open PySem L2 Evl Dl
section
variable {ns : List Str} {told : Str → List Str} {u : U}
theorem eq_dct {vs : Str → List Str} (hv : ∀ x ∈ ns, okN (vs x)) : oEqA (.dct (dctD ns fun n => .tup (sD (vs n)))) (.dct (dctD ns fun n => .tup (sD (vs n)))) = some (.bl true) := by
  have hs : ∀ l : List Str, (∀ x ∈ l, okN (vs x)) → shps (dctD l fun n => .tup (sD (vs n))) = true := by
    intro l
    induction l with
    | nil => intro _; rfl
    | cons x l ih =>
      intro h
      show (shp (.tup (sD (vs x))) && shps (dctD l fun n => .tup (sD (vs n)))) = true
      rw [ih fun y hy => h y (List.mem_cons_of_mem _ hy), shp_ok (by unfold pln; exact pln_sD (h x List.mem_cons_self)) (by unfold dep; rw [deps_sD]; decide)]; rfl
  have he : ∀ l : List Str, (∀ x ∈ l, x ∈ ns) → eqKvs (dctD ns fun n => .tup (sD (vs n))) (dctD l fun n => .tup (sD (vs n))) = true := by
    intro l
    induction l with
    | nil => intro _; rfl
    | cons x l ih =>
      intro h
      have hx := h x List.mem_cons_self
      have hp : pln (.tup (sD (vs x))) = true := by unfold pln; exact pln_sD (hv x hx)
      show (match lookD (dctD ns fun n => .tup (sD (vs n))) (Sum.inr x) with
        | some y => PyData.eqv (toPy (.tup (sD (vs x)))) (toPy y) && eqKvs (dctD ns fun n => .tup (sD (vs n))) (dctD l fun n => .tup (sD (vs n)))
        | none => false) = true
      rw [look_dctD (v := fun n => .tup (sD (vs n))) hx]
      dsimp only
      rw [(eqv_of hp hp).mpr rfl, ih fun y hy => h y (List.mem_cons_of_mem _ hy)]; rfl
  show (oEq _ _).or (oEqDct _ _) = _
  have h1 : oEq (.dct (dctD ns fun n => .tup (sD (vs n)))) (.dct (dctD ns fun n => .tup (sD (vs n)))) = none := rfl
  rw [h1]
  show chk _ _ = _
  rw [hs ns hv, he ns fun _ h => h]
  simp [chk]
theorem eq_spec (k : KG ns told) : m_Keys_D_eqD_ [keysD ns told, keysD ns told] u = .ok (.bl true) u := by
  have e1 := eq_tupS k.ok k.ok
  have e2 := eq_dct (ns := ns) (vs := told) fun x hx => k.okt hx
  have i1 : isiD tb_Keys (keysD ns told) = some (.bl true) := rfl
  unfold m_Keys_D_eqD_ b_Keys_D_eqD_
  simp [x_isi, i1, x_fld, g_names, g_told, e1, e2, dAndV]
end
end Pr
set_option Elab.async false
set_option linter.all false
set_option maxRecDepth 100000
set_option maxHeartbeats 4000000
/-! Wa: running a mirror step by step, without writing its text again. -/
namespace Dl
open PySem L2 Evl
/-- a block's end is as P says -/
def okS (P : SR → Prop) (r : SR) : Prop := P r
theorem run_spec {n : Nat} {f : DS} {ds : List D} {u : U} {res : Res D} (h : okS (fun r => endB r = res) (f (ρ0 n ds) u)) : runB n f ds u = res := h
theorem run_ex {n : Nat} {f : DS} {ds : List D} {u : U} {Q : D → U → Prop} (h : okS (fun r => ∃ d u', endB r = .ok d u' ∧ Q d u') (f (ρ0 n ds) u)) : ∃ d u', runB n f ds u = .ok d u' ∧ Q d u' := h
theorem okS_congr {P : SR → Prop} {r r' : SR} (h : r = r') : okS P r = okS P r' := by rw [h]
theorem seq_congr {r r' : SR} {k : DS} (h : r = r') : r.seq k = r'.seq k := by rw [h]
theorem thenS_congr {α : Type} {r r' : Res α} {ρ : En} {k : α → U → SR} (h : r = r') : thenS r ρ k = thenS r' ρ k := by rw [h]
theorem ok_end {P : SR → Prop} {r : SR} (h : P r) : okS P r := h
/-- for, over what enc makes of ys -/
theorem ok_for {α : Type} (enc : α → D) (Inv : Nat → En → U → Prop) {tg : Tg} {body k : DS} {ys : List α} {ρ : En} {u : U} {P : SR → Prop} (h0 : Inv 0 ρ u)
    (step : ∀ (i : Nat) (y : α) (ρ : En) (u : U), ys[i]? = some y → Inv i ρ u → ∃ ρ1, bindT tg (enc y) ρ = some ρ1 ∧ okS (fun r => ∃ ρ2 u2, r = .nx ρ2 u2 ∧ Inv (i + 1) ρ2 u2) (body ρ1 u))
    (fin : ∀ (ρ : En) (u : U), Inv ys.length ρ u → okS P (k ρ u)) : okS P ((forGo tg body (ys.map enc) ρ u).seq k) := by
  obtain ⟨ρ', u', h1, h2⟩ := forGo_inv2 (tg := tg) (body := body) Inv (ys.map enc) 0 ρ u h0 fun j x ρ u hx hi => by
    rw [List.getElem?_map] at hx
    cases hy : ys[j]? with
    | none => rw [hy] at hx; cases hx
    | some y =>
      rw [hy] at hx
      cases hx
      rw [Nat.zero_add] at hi ⊢
      obtain ⟨ρ1, b, ρ2, u2, e, h⟩ := step j y ρ u hy hi
      exact ⟨ρ1, ρ2, u2, b, e, h⟩
  rw [Nat.zero_add, List.length_map] at h2
  rw [h1]
  exact fin ρ' u' h2
theorem ok_forD (Inv : Nat → En → U → Prop) {tg : Tg} {body k : DS} {xs : List D} {ρ : En} {u : U} {P : SR → Prop} (h0 : Inv 0 ρ u)
    (step : ∀ (i : Nat) (y : D) (ρ : En) (u : U), xs[i]? = some y → Inv i ρ u → ∃ ρ1, bindT tg y ρ = some ρ1 ∧ okS (fun r => ∃ ρ2 u2, r = .nx ρ2 u2 ∧ Inv (i + 1) ρ2 u2) (body ρ1 u))
    (fin : ∀ (ρ : En) (u : U), Inv xs.length ρ u → okS P (k ρ u)) : okS P ((forGo tg body xs ρ u).seq k) := by
  have e : xs = xs.map id := (List.map_id xs).symm
  rw [e]
  refine ok_for id Inv h0 (fun i y ρ u hy hi => step i y ρ u hy hi) fin
/-- .. as the last -/
theorem ok_forE {α : Type} (enc : α → D) (Inv : Nat → En → U → Prop) {tg : Tg} {body : DS} {ys : List α} {ρ : En} {u : U} {P : SR → Prop} (h0 : Inv 0 ρ u)
    (step : ∀ (i : Nat) (y : α) (ρ : En) (u : U), ys[i]? = some y → Inv i ρ u → ∃ ρ1, bindT tg (enc y) ρ = some ρ1 ∧ okS (fun r => ∃ ρ2 u2, r = .nx ρ2 u2 ∧ Inv (i + 1) ρ2 u2) (body ρ1 u))
    (fin : ∀ (ρ : En) (u : U), Inv ys.length ρ u → okS P (.nx ρ u)) : okS P (forGo tg body (ys.map enc) ρ u) := by
  have h : (forGo tg body (ys.map enc) ρ u).seq sNx = forGo tg body (ys.map enc) ρ u := by cases forGo tg body (ys.map enc) ρ u <;> rfl
  rw [← h]
  exact ok_for enc Inv h0 step fin
/-- an expression is answered, then on -/
theorem ok_then {α : Type} {r : Res α} {ρ : En} {k : α → U → SR} {P : SR → Prop} {a : α} {u : U} (h : r = .ok a u) (h2 : okS P (k a u)) : okS P (thenS r ρ k) := by rw [h]; exact h2
theorem ok_thenSeq {α : Type} {r : Res α} {ρ : En} {k : α → U → SR} {g : DS} {P : SR → Prop} {a : α} {u : U} (h : r = .ok a u) (h2 : okS P ((k a u).seq g)) : okS P ((thenS r ρ k).seq g) := by rw [h]; exact h2
@[simp] theorem x_forS (fi : DI) (tg : Tg) (body : DS) (ρ : En) (u : U) : sFor fi tg body ρ u = thenS (fi ρ u) ρ fun xs u => forGo tg body xs ρ u := rfl
@[simp] theorem x_thenSeq {α : Type} (a : α) (u : U) (ρ : En) (k : α → U → SR) (g : DS) : (thenS (.ok a u) ρ k).seq g = (k a u).seq g := rfl
/-- frozen: slot by slot -/
theorem x_frzS (s : Slot) (ρ : En) : frz (s :: ρ) = frz1 s :: frz ρ := rfl
@[simp] theorem frz1_val (d : D) : frz1 (.val d) = .val d := rfl
@[simp] theorem frz1_own (d : D) : frz1 (.own d) = .val d := rfl
@[simp] theorem frz1_no : frz1 .no = .no := rfl
theorem x_frzI (is : List Nat) (f : DS) (ρ : En) (u : U) : sFrzI is f ρ u = f (frzI is ρ) u := rfl
theorem x_lendG_ok {f : DE} {ρ : En} {u u' : U} {d : D} (h : f (frz ρ) u = .ok d u') (hs : noKR ρ d = true) : lendG f ρ u = .ok d u' := by unfold lendG; rw [h]; simp [hs]
theorem x_lendNG_ok {f : DE} {ρ : En} {u u' : U} {d : D} (h : f (frz ρ) u = .ok d u') (hs : noKP ρ d = true) : lendNG f ρ u = .ok d u' := by unfold lendNG; rw [h]; simp [hs]
theorem noKs_sD (l dd oo : Bool) : ∀ ns : List Str, noKs l dd oo (sD ns) = true
  | [] => by unfold sD; rw [List.map_nil]; unfold noKs; rfl
  | n :: ns => by
    have := noKs_sD l dd oo ns
    unfold sD at this ⊢
    rw [List.map_cons]
    unfold noKs
    rw [this]; unfold noK; rfl
end Dl
set_option Elab.async false
set_option linter.all false
set_option maxRecDepth 100000
set_option maxHeartbeats 4000000
namespace Pr
open PySem L2 Evl Dl
theorem by_hand_true (u : U) : m__law_by_hand_right [] u = .ok (.bl true) u := by
  kernel_rfl
end Pr
set_option Elab.async false
set_option linter.all false
set_option maxRecDepth 100000
set_option maxHeartbeats 4000000
/-! Lb: _law_told: the closure by going over it again and again. -/
namespace Dl
open PySem L2 Evl
/-- within k steps -/
inductive Pth (dm : Str → List Str) : Nat → Str → Str → Prop
  | one {x y : Str} {k : Nat} : y ∈ dm x → Pth dm (k + 1) x y
  | step {x y z : Str} {k : Nat} : y ∈ dm x → Pth dm k y z → Pth dm (k + 1) x z
theorem Pth.snoc {dm : Str → List Str} {k : Nat} {x y z : Str} (h : Pth dm k x y) (hz : z ∈ dm y) : Pth dm (k + 1) x z := by
  induction h with
  | one hy => exact .step hy (.one hz)
  | step hy _ ih => exact .step hy (ih hz)
theorem Pth.rch {dm : Str → List Str} {k : Nat} {x y : Str} (h : Pth dm k x y) : Rch dm (dm x) y := by
  have tr : ∀ {x y z : Str}, Rch dm (dm x) y → Rch dm (dm y) z → Rch dm (dm x) z := fun {x y z} h g => by
    induction g with
    | base hz => exact .step h hz
    | step _ hz ih => exact .step ih hz
  induction h with
  | one hy => exact .base hy
  | step hy _ ih => exact tr (.base hy) ih
theorem Rch.pth {dm : Str → List Str} {x y : Str} (h : Rch dm (dm x) y) : ∃ k, Pth dm k x y := by
  induction h with
  | base hy => exact ⟨1, .one hy⟩
  | step _ hz ih => obtain ⟨k, h⟩ := ih; exact ⟨k + 1, h.snoc hz⟩
/-- steps that climb end soon -/
theorem Pth.short {dm : Str → List Str} (rk : Str → Nat) (hr : ∀ x y, y ∈ dm x → rk x < rk y) {k : Nat} {x y : Str} (h : Pth dm k x y) : ∃ j, Pth dm j x y ∧ j + rk x ≤ rk y := by
  induction h with
  | @one x y k hy => exact ⟨1, .one hy, by have := hr _ _ hy; omega⟩
  | @step x y z k hy _ ih =>
    obtain ⟨j, h1, h2⟩ := ih
    exact ⟨j + 1, .step hy h1, by have := hr _ _ hy; omega⟩
theorem Pth.mono {dm : Str → List Str} {k j : Nat} {x y : Str} (h : Pth dm k x y) (hk : k ≤ j) : Pth dm j x y := by
  induction h generalizing j with
  | @one x y k hy => obtain ⟨i, rfl⟩ : ∃ i, j = i + 1 := ⟨j - 1, by omega⟩; exact .one hy
  | @step x y z k hy _ ih => obtain ⟨i, rfl⟩ : ∃ i, j = i + 1 := ⟨j - 1, by omega⟩; exact .step hy (ih (by omega))
/-- a slot that is not one's own -/
def vS : Option D → Slot
  | none => .no
  | some d => .val d
theorem frz1_vS (o : Option D) : frz1 (vS o) = vS o := by cases o <;> rfl
theorem putD_dct {ns : List Str} {v : Str → D} {x : Str} {w : D} (h : x ∈ ns) : putD (dctD ns v) (Sum.inr x) w = dctD ns fun n => if n = x then w else v n := by
  have hany : ((dctD ns v).any fun kv => decide (kv.1 = Sum.inr x)) = true := List.any_eq_true.mpr ⟨(Sum.inr x, v x), List.mem_map.mpr ⟨x, h, rfl⟩, decide_eq_true rfl⟩
  unfold putD
  rw [if_pos hany]
  unfold dctD
  rw [List.map_map]
  refine List.map_congr_left fun n _ => ?_
  show (if (Sum.inr n : Key) = Sum.inr x then (Sum.inr n, w) else (Sum.inr n, v n)) = (Sum.inr n, if n = x then w else v n)
  by_cases e : n = x
  · rw [if_pos (by rw [e]), if_pos e]
  · rw [if_neg (fun z => e (Sum.inr.inj z)), if_neg e]
theorem oDctP_map {ns : List Str} {v : Str → D} (nd : ns.Nodup) : oDctP [.lst (ns.map fun n => .tup [.str n, v n])] = some (.dct (dctD ns v)) := by
  have hp : ∀ l : List Str, pairsD (l.map fun n => .tup [.str n, v n]) = some (dctD l v) := by
    intro l
    induction l with
    | nil => rfl
    | cons n l ih =>
      rw [List.map_cons]
      unfold pairsD
      rw [ih]; rfl
  show (pairsD (ns.map fun n => .tup [.str n, v n])).bind (fun kds => chk (decide (kds.map (·.1)).Nodup) (D.dct kds)) = _
  rw [hp, Option.bind_some]
  have hn : ((dctD ns v).map (·.1)).Nodup := by
    unfold dctD
    rw [List.map_map]
    exact List.Pairwise.map _ (fun a b hab e => hab (Sum.inr.inj e)) nd
  rw [decide_eq_true hn]; rfl
theorem dmOf_nodup {tl : List (Str × Str)} (h : tl.Nodup) (x : Str) : (dmOf tl x).Nodup := by
  unfold dmOf
  have h2 := h.filter fun p => decide (p.1 = x)
  unfold List.Nodup at h2 ⊢
  rw [List.pairwise_map]
  refine List.Pairwise.imp_of_mem (fun {a b} ha hb hab e => hab ?_) h2
  have e1 : a.1 = x := of_decide_eq_true (List.mem_filter.mp ha).2
  have e2 : b.1 = x := of_decide_eq_true (List.mem_filter.mp hb).2
  exact Prod.ext (e1.trans e2.symm) e
theorem newOf_nodup {dm : Str → List Str} {f : List Str} {x : Str} (hf : f.Nodup) (hd : (dm x).Nodup) : (f ++ newOf dm f x).Nodup := by
  refine List.nodup_append.mpr ⟨hf, hd.filter _, fun a ha b hb e => ?_⟩
  subst e
  exact (mem_newOf.mp hb).2 ha
end Dl
namespace Pr
open PySem L2 Evl Dl
/-- the table's list of a name grows -/
def addT (T : Str → List Str) (x z : Str) : Str → List Str := fun n => if n = x then T x ++ newOf T (T x) z else T n
def tdE (bk : D) (ns : List Str) (tl : List (Str × Str)) (T : Str → List Str) (a b c : Option D) : En := [.val bk, .val (.tup (sD ns)), .val (.tup (tl.map tpD)), .own (.dct (dctD ns fun n => .lst (sD (T n)))), vS a, vS b, vS c, .no, .no]
section
variable {bk : D} {ns : List Str} {tl : List (Str × Str)} {T : Str → List Str} {a b c : Option D} {u : U}
theorem td_own : ownL (tdE bk ns tl T a b c) = false ∧ ownD (tdE bk ns tl T a b c) = true ∧ ownO (tdE bk ns tl T a b c) = false := by
  unfold tdE
  refine ⟨?_, ?_, ?_⟩ <;> (cases a <;> cases b <;> cases c <;> rfl)
/-- the tables of a time -/
structure TdI (ns : List Str) (dm T : Str → List Str) : Prop where
  nd : ∀ x ∈ ns, (T x).Nodup
  sub : ∀ x ∈ ns, ∀ y ∈ T x, y ∈ ns
  snd : ∀ x ∈ ns, ∀ y ∈ T x, Rch dm (dm x) y
theorem TdI.add {dm : Str → List Str} (h : TdI ns dm T) {x z : Str} (hx : x ∈ ns) (hz : z ∈ T x) : TdI ns dm (addT T x z) := by
  have hzn := h.sub x hx z hz
  refine ⟨fun n hn => ?_, fun n hn y hy => ?_, fun n hn y hy => ?_⟩
  · unfold addT
    by_cases e : n = x
    · rw [if_pos e]; exact newOf_nodup (h.nd x hx) (h.nd z hzn)
    · rw [if_neg e]; exact h.nd n hn
  · unfold addT at hy
    by_cases e : n = x
    · rw [if_pos e] at hy
      rcases List.mem_append.mp hy with h1 | h1
      · exact h.sub x hx y h1
      · exact h.sub z hzn y (mem_newOf.mp h1).1
    · rw [if_neg e] at hy; exact h.sub n hn y hy
  · unfold addT at hy
    by_cases e : n = x
    · rw [if_pos e] at hy
      rw [e]
      rcases List.mem_append.mp hy with h1 | h1
      · exact h.snd x hx y h1
      · exact Rch.trans (h.snd x hx z hz) (h.snd z hzn y (mem_newOf.mp h1).1)
    · rw [if_neg e] at hy; exact h.snd n hn y hy
theorem TdI.len {dm : Str → List Str} (h : TdI ns dm T) {x : Str} (hx : x ∈ ns) : (T x).length ≤ ns.length := nodup_len (h.nd x hx) (h.sub x hx)
/-- the innermost statement -/
theorem td_put {dm : Str → List Str} (hok : okN ns) (hl : ns.length ≤ 60) (h : TdI ns dm T) {x z : Str} (hx : x ∈ ns) (hz : z ∈ T x) : okS (fun r => r = .nx (tdE bk ns tl (addT T x z) a (some (.str x)) (some (.str z))) u)
    (sPut 3 (dVar 5) (lendG (dOp oAdd (dOp oIx (dVar 3) (dVar 5)) (dLc (dItems (dOp oIx (dVar 3) (dVar 6))) (.nm 8) (dTst (dOp oNotInD (dVar 8) (dOp oIx (dVar 3) (dVar 5)))) (dVar 8) [8]))) (tdE bk ns tl T a (some (.str x)) (some (.str z))) u) := by
  have hzn := h.sub x hx z hz
  have lx := h.len hx
  have lz := h.len hzn
  have i1 : oIx (.dct (dctD ns fun n => .lst (sD (T n)))) (.str x) = some (.lst (sD (T x))) := look_dctD (v := fun n => .lst (sD (T n))) hx
  have i2 : oIx (.dct (dctD ns fun n => .lst (sD (T n)))) (.str z) = some (.lst (sD (T z))) := look_dctD (v := fun n => .lst (sD (T n))) hzn
  have hL : dLc (dItems (dOp oIx (dVar 3) (dVar 6))) (.nm 8) (dTst (dOp oNotInD (dVar 8) (dOp oIx (dVar 3) (dVar 5)))) (dVar 8) [8] (frz (tdE bk ns tl T a (some (.str x)) (some (.str z)))) u = .ok (.lst (sD (newOf T (T x) z))) u := by
    refine dLc_ok D.str (fun o => !decide (o ∈ T x)) D.str (T z) ?_ (by omega) fun o ho => ⟨_, rfl, ?_, fun _ => ?_⟩
    · unfold tdE
      cases a <;> simp [dItems, i2, itemsD, vS]
    · have e := notIn_lstS (hok o (h.sub z hzn o ho)) (okN_sub hok (h.sub x hx))
      unfold tdE
      cases a <;> simp [x_tst, wipeE, i1, e, vS]
    · unfold tdE
      cases a <;> simp [wipeE, vS]
  have hsm : small ((T x).length + (newOf T (T x) z).length) = true := by
    have : (newOf T (T x) z).length ≤ (T z).length := List.length_filter_le _ _
    unfold small
    exact decide_eq_true (by omega)
  have hadd : oAdd (.lst (sD (T x))) (.lst (sD (newOf T (T x) z))) = some (.lst (sD (T x ++ newOf T (T x) z))) := by
    unfold sD
    rw [List.map_append]
    simp [oAdd, oI, oAddS, oAddL, hsm]
  have hv : lendG (dOp oAdd (dOp oIx (dVar 3) (dVar 5)) (dLc (dItems (dOp oIx (dVar 3) (dVar 6))) (.nm 8) (dTst (dOp oNotInD (dVar 8) (dOp oIx (dVar 3) (dVar 5)))) (dVar 8) [8])) (tdE bk ns tl T a (some (.str x)) (some (.str z))) u = .ok (.lst (sD (T x ++ newOf T (T x) z))) u := by
    refine x_lendG_ok ?_ ?_
    · rw [x_op]
      have h5 : dOp oIx (dVar 3) (dVar 5) (frz (tdE bk ns tl T a (some (.str x)) (some (.str z)))) u = .ok (.lst (sD (T x))) u := by
        unfold tdE
        cases a <;> simp [i1, vS]
      simp only [x_bnd, h5, hL, x_opt1, hadd]
    · unfold noKR
      rw [td_own.1, td_own.2.1, td_own.2.2]
      unfold noK
      rw [noKs_sD]; rfl
  have hk : keyD (.str x) = some (Sum.inr x) := rfl
  have hs2 : small (dctD ns fun n => D.lst (sD (T n))).length = true := by
    unfold small dctD
    rw [List.length_map]
    exact decide_eq_true (by omega)
  refine ok_end ?_
  unfold sPut
  rw [hv]
  unfold tdE
  simp [vS, hk, hs2, putD_dct hx]
  congr 2
  funext n
  unfold addT
  by_cases e : n = x <;> simp [e]
end
end Pr
set_option Elab.async false
set_option linter.all false
set_option maxRecDepth 100000
set_option maxHeartbeats 4000000
/-! Lc: _law_told, the loops. -/
namespace Dl
open PySem L2 Evl
theorem ok_mono {P Q : SR → Prop} {r : SR} (h : okS P r) (k : ∀ r, P r → Q r) : okS Q r := k r h
end Dl
namespace Pr
open PySem L2 Evl Dl
section
variable {bk : D} {ns : List Str} {tl : List (Str × Str)} {T : Str → List Str} {a b c : Option D} {u : U} {dm : Str → List Str}
def tdB : DS := sPut 3 (dVar 5) (lendG (dOp oAdd (dOp oIx (dVar 3) (dVar 5)) (dLc (dItems (dOp oIx (dVar 3) (dVar 6))) (.nm 8) (dTst (dOp oNotInD (dVar 8) (dOp oIx (dVar 3) (dVar 5)))) (dVar 8) [8])))
def tdF : DS := sFor (dItems (lendG (dCall oList (dCons (dOp oIx (dVar 3) (dVar 5)) dNil)))) (.nm 6) tdB
/-- one name is gone over -/
theorem td_name (hok : okN ns) (hl : ns.length ≤ 60) (h : TdI ns dm T) {x : Str} (hx : x ∈ ns) : okS (fun r => ∃ T' c', r = .nx (tdE bk ns tl T' a (some (.str x)) c') u ∧ TdI ns dm T' ∧ (∀ n ∈ ns, ∀ y ∈ T n, y ∈ T' n) ∧ ∀ z ∈ T x, ∀ y ∈ T z, y ∈ T' x)
    (tdF (tdE bk ns tl T a (some (.str x)) c) u) := by
  have i1 : oIx (.dct (dctD ns fun n => .lst (sD (T n)))) (.str x) = some (.lst (sD (T x))) := look_dctD (v := fun n => .lst (sD (T n))) hx
  have hi : dItems (lendG (dCall oList (dCons (dOp oIx (dVar 3) (dVar 5)) dNil))) (tdE bk ns tl T a (some (.str x)) c) u = .ok ((T x).map D.str) u := by
    have hv : lendG (dCall oList (dCons (dOp oIx (dVar 3) (dVar 5)) dNil)) (tdE bk ns tl T a (some (.str x)) c) u = .ok (.lst (sD (T x))) u := by
      refine x_lendG_ok ?_ ?_
      · unfold tdE
        cases a <;> cases c <;> simp [i1, oList, vS]
      · unfold noKR
        rw [td_own.1, td_own.2.1, td_own.2.2]
        unfold noK
        rw [noKs_sD]; rfl
    rw [x_items]
    simp only [x_bnd, hv, itemsD, x_opt1]
  unfold tdF
  rw [x_for, hi, x_then1]
  refine ok_forE D.str (fun i ρ u' => u' = u ∧ ∃ T' c', ρ = tdE bk ns tl T' a (some (.str x)) c' ∧ TdI ns dm T' ∧ (∀ n ∈ ns, ∀ y ∈ T n, y ∈ T' n) ∧ (∀ n, n ≠ x → T' n = T n) ∧ ∀ z ∈ (T x).take i, ∀ y ∈ T z, y ∈ T' x) ⟨rfl, T, c, rfl, h, fun _ _ _ hy => hy, fun _ _ => rfl, fun z hz => by simp at hz⟩ ?_ ?_
  · rintro i z ρ u' hz ⟨rfl, T', c', rfl, h1, h2, h3, h4⟩
    have hzT : z ∈ T x := List.mem_of_getElem? hz
    have hzT' : z ∈ T' x := h2 x hx z hzT
    refine ⟨tdE bk ns tl T' a (some (.str x)) (some (.str z)), rfl, ok_mono (td_put hok hl h1 hx hzT') ?_⟩
    rintro r rfl
    refine ⟨_, _, rfl, rfl, addT T' x z, _, rfl, h1.add hx hzT', fun n hn y hy => ?_, fun n hn => ?_, fun w hw y hy => ?_⟩
    · unfold addT
      by_cases e : n = x
      · rw [if_pos e]; exact List.mem_append_left _ (by rw [← e]; exact h2 n hn y hy)
      · rw [if_neg e]; exact h2 n hn y hy
    · unfold addT
      rw [if_neg hn]; exact h3 n hn
    · unfold addT
      rw [if_pos rfl]
      have hil : i < (T x).length := (List.getElem?_eq_some_iff.mp hz).1
      rw [List.take_succ_eq_append_getElem hil] at hw
      rcases List.mem_append.mp hw with hw | hw
      · exact List.mem_append_left _ (h4 w hw y hy)
      · have ew : w = z := by
          have := (List.getElem?_eq_some_iff.mp hz).2
          rw [List.mem_singleton.mp hw, this]
        subst ew
        by_cases e : w = x
        · rw [e] at hy; exact List.mem_append_left _ (h2 x hx y hy)
        · by_cases hyT : y ∈ T' x
          · exact List.mem_append_left _ hyT
          · exact List.mem_append_right _ (mem_newOf.mpr ⟨by rw [h3 w e]; exact hy, hyT⟩)
  · rintro ρ u' ⟨rfl, T', c', rfl, h1, h2, h3, h4⟩
    rw [List.take_length] at h4
    exact ok_end ⟨T', c', rfl, h1, h2, h4⟩
def tdG : DS := sFor (dItems (dVar 1)) (.nm 5) tdF
/-- all names are gone over -/
theorem td_round (hok : okN ns) (hl : ns.length ≤ 60) (h : TdI ns dm T) (hd : ∀ x ∈ ns, ∀ y ∈ dm x, y ∈ ns) {r : Nat} (hr : ∀ x ∈ ns, ∀ y, Pth dm (r + 1) x y → y ∈ T x) : okS (fun q => ∃ T' b' c', q = .nx (tdE bk ns tl T' a b' c') u ∧ TdI ns dm T' ∧ ∀ x ∈ ns, ∀ y, Pth dm (r + 2) x y → y ∈ T' x)
    (tdG (tdE bk ns tl T a b c) u) := by
  have hi : dItems (dVar 1) (tdE bk ns tl T a b c) u = .ok (ns.map D.str) u := rfl
  unfold tdG
  rw [x_for, hi, x_then1]
  refine ok_forE D.str (fun i ρ u' => u' = u ∧ ∃ T' b' c', ρ = tdE bk ns tl T' a b' c' ∧ TdI ns dm T' ∧ (∀ n ∈ ns, ∀ y ∈ T n, y ∈ T' n) ∧ ∀ x ∈ ns.take i, ∀ z ∈ T x, ∀ y ∈ T z, y ∈ T' x) ⟨rfl, T, b, c, rfl, h, fun _ _ _ hy => hy, fun z hz => by simp at hz⟩ ?_ ?_
  · rintro i x ρ u' hx ⟨rfl, T', b', c', rfl, h1, h2, h3⟩
    have hxn : x ∈ ns := List.mem_of_getElem? hx
    refine ⟨tdE bk ns tl T' a (some (.str x)) c', rfl, ok_mono (td_name hok hl h1 hxn) ?_⟩
    rintro q ⟨T2, c2, rfl, g1, g2, g3⟩
    refine ⟨_, _, rfl, rfl, T2, _, c2, rfl, g1, fun n hn y hy => g2 n hn y (h2 n hn y hy), fun w hw z hz y hy => ?_⟩
    have hil : i < ns.length := (List.getElem?_eq_some_iff.mp hx).1
    rw [List.take_succ_eq_append_getElem hil] at hw
    rcases List.mem_append.mp hw with hw | hw
    · exact g2 w (List.mem_of_mem_take hw) y (h3 w hw z hz y hy)
    · have ew : w = x := by
        have := (List.getElem?_eq_some_iff.mp hx).2
        rw [List.mem_singleton.mp hw, this]
      subst ew
      exact g3 z (h2 w hxn z hz) y (h2 z (h.sub w hxn z hz) y hy)
  · rintro ρ u' ⟨rfl, T', b', c', rfl, h1, h2, h3⟩
    rw [List.take_length] at h3
    refine ok_end ⟨T', b', c', rfl, h1, fun x hx y hy => ?_⟩
    cases hy with
    | one h0 => exact h2 x hx y (hr x hx y (.one h0))
    | @step _ z _ _ h0 hp => exact h3 x hx z (hr x hx z (.one h0)) y (hr z (hd x hx z h0) y hp)
end
end Pr
set_option Elab.async false
set_option linter.all false
set_option maxRecDepth 100000
set_option maxHeartbeats 4000000
/-! Ld: _law_told. -/
namespace Pr
open PySem L2 Evl Dl
open Classical in
noncomputable def rkOf (st : Int) (ns : List Str) (x : Str) : Nat := (ns.filter fun z => decide (stR st z x)).length
theorem rk_lt {st : Int} {ns : List Str} {x y : Str} (hx : x ∈ ns) (h : stR st x y) : rkOf st ns x < rkOf st ns y := by
  classical
  unfold rkOf
  have le : ∀ l : List Str, (l.filter fun z => decide (stR st z x)).length ≤ (l.filter fun z => decide (stR st z y)).length := by
    intro l
    induction l with
    | nil => exact Nat.le_refl _
    | cons n l ih =>
      by_cases e : stR st n x
      · have e2 := stR_trans st n x y e h
        simp only [List.filter_cons, e, e2, decide_true, if_true, List.length_cons]; omega
      · by_cases e2 : stR st n y
        · simp only [List.filter_cons, e, e2, decide_true, decide_false, if_true, Bool.false_eq_true, if_false, List.length_cons]; omega
        · simp only [List.filter_cons, e, e2, decide_false, Bool.false_eq_true, if_false]; exact ih
  induction ns with
  | nil => cases hx
  | cons n l ih =>
    by_cases e : n = x
    · subst e
      have := le l
      simp only [List.filter_cons, stR_irr st n, h, decide_true, decide_false, if_true, Bool.false_eq_true, if_false, List.length_cons]; omega
    · have ih := ih ((List.mem_cons.mp hx).resolve_left fun z => e z.symm)
      by_cases e1 : stR st n x
      · have e2 := stR_trans st n x y e1 h
        simp only [List.filter_cons, e1, e2, decide_true, if_true, List.length_cons]; omega
      · by_cases e2 : stR st n y
        · simp only [List.filter_cons, e1, e2, decide_true, decide_false, if_true, Bool.false_eq_true, if_false, List.length_cons]; omega
        · simp only [List.filter_cons, e1, e2, decide_false, Bool.false_eq_true, if_false]; exact ih
theorem rk_le {st : Int} {ns : List Str} {x : Str} : rkOf st ns x ≤ ns.length := by unfold rkOf; exact List.length_filter_le _ _
section
variable {ns : List Str} {tl : List (Str × Str)} {told : Str → List Str} {u : U}
def bkD (ns : List Str) (tl : List (Str × Str)) : D := .tup [.tup (sD ns), .tup (tl.map tpD)]
theorem td_rounds {bk : D} {a b c : Option D} {dm T : Str → List Str} (hok : okN ns) (hl : ns.length ≤ 60) (h : TdI ns dm T) (hd : ∀ x ∈ ns, ∀ y ∈ dm x, y ∈ ns) (h0 : ∀ x ∈ ns, ∀ y, y ∈ dm x → y ∈ T x) {P : SR → Prop} {k : DS}
    (fin : ∀ T' a' b' c', TdI ns dm T' → (∀ x ∈ ns, ∀ y, Pth dm (ns.length + 1) x y → y ∈ T' x) → okS P (k (tdE bk ns tl T' a' b' c') u)) :
    okS P ((sFor (dRng1 (dCons (dCall oLen (dCons (dVar 1) dNil)) dNil)) (.nm 4) tdG (tdE bk ns tl T a b c) u).seq k) := by
  have hi : dRng1 (dCons (dCall oLen (dCons (dVar 1) dNil)) dNil) (tdE bk ns tl T a b c) u = .ok (rngD 0 ns.length) u := by
    have e1 : oLen [.tup (sD ns)] = some (.int (ns.length : Nat)) := by show some (D.int ((sD ns).length : Nat)) = _; unfold sD; rw [List.length_map]
    have e2 := o_rng (n := ns.length) (by omega)
    unfold dRng1 tdE
    simp [e1, e2]
  rw [x_for, hi, x_then1]
  have hln : (rngD 0 ns.length).length = ns.length := rng_len _ _
  refine ok_forD (fun i ρ u' => u' = u ∧ ∃ T' a' b' c', ρ = tdE bk ns tl T' a' b' c' ∧ TdI ns dm T' ∧ ∀ x ∈ ns, ∀ y, Pth dm (i + 1) x y → y ∈ T' x) ⟨rfl, T, a, b, c, rfl, h, fun x hx y hy => ?_⟩ ?_ ?_
  · cases hy with
    | one h1 => exact h0 x hx y h1
    | step _ h1 => cases h1
  · rintro i y ρ u' hy ⟨rfl, T', a', b', c', rfl, h1, h2⟩
    refine ⟨tdE bk ns tl T' (some y) b' c', rfl, ok_mono (td_round hok hl h1 hd h2) ?_⟩
    rintro q ⟨T2, b2, c2, rfl, g1, g2⟩
    exact ⟨_, _, rfl, rfl, T2, _, b2, c2, rfl, g1, g2⟩
  · rintro ρ u' ⟨rfl, T', a', b', c', rfl, h1, h2⟩
    rw [hln] at h2
    exact fin T' a' b' c' h1 h2
def toldD (ns : List Str) (told : Str → List Str) : D := D.dct (dctD ns (fun n => D.lst (sD (told n))) ++ [((Sum.inr "#" : Key), D.lst (sD ns))])
theorem law_told_spec (k : KO ns told) (bk : BookOk ns tl) (hr : ∀ x ∈ ns, ∀ y, y ∈ told x ↔ Rch (dmOf tl) (dmOf tl x) y) : m__law_told [bkD ns tl] u = .ok (toldD ns told) u := by
  have kg := k.toKG
  have hl := kg.len
  obtain ⟨st, hst⟩ := bk.pr
  have hv : ∀ p ∈ tl, p.1 ∈ ns ∧ p.2 ∈ ns := fun p hp => ⟨(hst p hp).1, (hst p hp).2.1⟩
  have hd : ∀ x ∈ ns, ∀ y ∈ dmOf tl x, y ∈ ns := fun x _ y hy => (hv _ (mem_dmOf.mp hy)).2
  have hshort : ∀ x ∈ ns, ∀ y, Rch (dmOf tl) (dmOf tl x) y → Pth (dmOf tl) (ns.length + 1) x y := fun x hx y h => by
    obtain ⟨j, hj⟩ := Rch.pth h
    obtain ⟨i, hi, hle⟩ := hj.short (rkOf st ns) fun a b hab => rk_lt (hst _ (mem_dmOf.mp hab)).1 (hst _ (mem_dmOf.mp hab)).2.2
    have := rk_le (st := st) (ns := ns) (x := y)
    exact hi.mono (by omega)
  -- the first table
  have hpk : ∀ p ∈ tl, PyData.strOk p.1 = true ∧ PyData.strOk p.2 = true := fun p hp => ⟨kg.ok _ (hv p hp).1, kg.ok _ (hv p hp).2⟩
  have hb : b__law_told = sSeq (sSetT (.tp [1, 2]) (dVar 0))
    (sSeq (sSetN 3 (dCall oDctP (dCons (dLc (dItems (dVar 1)) (.nm 5) dYes (dTup (dCons (dVar 5) (dCons (dLc (dItems (dVar 2)) (.nm 7) (dTst (dOp oEq (dOp oIx (dVar 7) (dC (.int 0))) (dVar 5))) (dOp oIx (dVar 7) (dC (.int 1))) [7]) dNil))) [5]) dNil)))
    (sSeq (sFor (dRng1 (dCons (dCall oLen (dCons (dVar 1) dNil)) dNil)) (.nm 4) tdG)
    (sSeq (sSetN 3 (lendNG (dCall oDctP (dCons (dLc (dItems (dVar 1)) (.nm 5) dYes (dTup (dCons (dVar 5) (dCons (dLc (dItems (dVar 1)) (.nm 6) (dTst (dOp oInD (dVar 6) (dOp oIx (dVar 3) (dVar 5)))) (dVar 6) [6]) dNil))) [5]) dNil))))
    (sSeq (sPut 3 (dC (.str "#")) (dCall oList (dCons (dVar 1) dNil)))
    (sFrzI [3] (sRet (dVar 3))))))) := rfl
  have s2 : small 2 = true := rfl
  unfold m__law_told
  refine run_spec ?_
  rw [hb, x_seq]
  have e1 : sSetT (.tp [1, 2]) (dVar 0) (ρ0 9 [bkD ns tl]) u = .nx [.val (bkD ns tl), .val (.tup (sD ns)), .val (.tup (tl.map tpD)), .no, .no, .no, .no, .no, .no] u := rfl
  rw [e1, x_seq1, x_seq]
  have e2 : dLc (dItems (dVar 1)) (.nm 5) dYes (dTup (dCons (dVar 5) (dCons (dLc (dItems (dVar 2)) (.nm 7) (dTst (dOp oEq (dOp oIx (dVar 7) (dC (.int 0))) (dVar 5))) (dOp oIx (dVar 7) (dC (.int 1))) [7]) dNil))) [5] [.val (bkD ns tl), .val (.tup (sD ns)), .val (.tup (tl.map tpD)), .no, .no, .no, .no, .no, .no] u = .ok (.lst (ns.map fun n => .tup [.str n, .lst (sD (dmOf tl n))])) u := by
    rw [dLc_ok (u := u) D.str (fun _ => true) (fun n => .tup [.str n, .lst (sD (dmOf tl n))]) ns rfl (by omega) fun n hn => ⟨_, rfl, rfl, fun _ => ?_⟩]
    · rw [List.filter_eq_self.mpr fun _ _ => rfl]
    · rw [x_tup, x_cons, x_cons]
      have h2 := dLc_ok (u := u) tpD (fun p => decide (p.1 = n)) (fun p => .str p.2) tl (fi := dItems (dVar 2)) (tg := .nm 7) (t := dTst (dOp oEq (dOp oIx (dVar 7) (dC (.int 0))) (dVar 5))) (e := dOp oIx (dVar 7) (dC (.int 1))) (vs := [7]) (ρ := (wipeE [.val (bkD ns tl), .val (.tup (sD ns)), .val (.tup (tl.map tpD)), .no, .no, .no, .no, .no, .no] [5]).set 5 (.val (.str n))) rfl (by have := bk.tln; omega) fun p hp => ⟨_, rfl, by
        have e := eq_str (hpk p hp).1 (kg.ok n hn)
        have i0 : oIx (tpD p) (.int 0) = some (.str p.1) := rfl
        simp [wipeE, x_tst, i0, e], fun _ => by
        have i1 : oIx (tpD p) (.int 1) = some (.str p.2) := rfl
        simp [wipeE, i1]⟩
      have h3 : ((tl.filter fun p => decide (p.1 = n)).map fun p => D.str p.2) = sD (dmOf tl n) := by unfold dmOf sD; rw [List.map_map]; rfl
      rw [h3] at h2
      have h5 : dVar 5 ((wipeE [.val (bkD ns tl), .val (.tup (sD ns)), .val (.tup (tl.map tpD)), .no, .no, .no, .no, .no, .no] [5]).set 5 (.val (.str n))) u = .ok (.str n) u := rfl
      simp only [x_bnd, h5, h2, x_nil, x_retM, x_opt1, List.length_cons, List.length_nil, s2, x_chk]
  have e3 : sSetN 3 (dCall oDctP (dCons (dLc (dItems (dVar 1)) (.nm 5) dYes (dTup (dCons (dVar 5) (dCons (dLc (dItems (dVar 2)) (.nm 7) (dTst (dOp oEq (dOp oIx (dVar 7) (dC (.int 0))) (dVar 5))) (dOp oIx (dVar 7) (dC (.int 1))) [7]) dNil))) [5]) dNil)) [.val (bkD ns tl), .val (.tup (sD ns)), .val (.tup (tl.map tpD)), .no, .no, .no, .no, .no, .no] u =
      .nx (tdE (bkD ns tl) ns tl (dmOf tl) none none none) u := by
    have hd2 := oDctP_map (v := fun n => .lst (sD (dmOf tl n))) kg.nd
    have hob : isOb (.dct (dctD ns fun n => .lst (sD (dmOf tl n)))) = false := rfl
    unfold sSetN
    simp [e2, hd2, hob]
    rfl
  rw [e3, x_seq1, x_seq]
  refine td_rounds kg.ok hl ⟨fun x _ => dmOf_nodup bk.tnd x, hd, fun x _ y hy => .base hy⟩ hd (fun x _ y hy => hy) fun T a b c hT hP => ?_
  have hTt : ∀ x ∈ ns, ∀ y, y ∈ T x ↔ y ∈ told x := fun x hx y => ⟨fun h => (hr x hx y).mpr (hT.snd x hx y h), fun h => hP x hx y (hshort x hx y ((hr x hx y).mp h))⟩
  -- the second table
  have e4 : dLc (dItems (dVar 1)) (.nm 5) dYes (dTup (dCons (dVar 5) (dCons (dLc (dItems (dVar 1)) (.nm 6) (dTst (dOp oInD (dVar 6) (dOp oIx (dVar 3) (dVar 5)))) (dVar 6) [6]) dNil))) [5] (frz (tdE (bkD ns tl) ns tl T a b c)) u = .ok (.lst (ns.map fun n => .tup [.str n, .lst (sD (told n))])) u := by
    rw [dLc_ok (u := u) D.str (fun _ => true) (fun n => .tup [.str n, .lst (sD (told n))]) ns rfl (by omega) fun n hn => ⟨_, rfl, rfl, fun _ => ?_⟩]
    · rw [List.filter_eq_self.mpr fun _ _ => rfl]
    · rw [x_tup, x_cons, x_cons]
      have i1 : oIx (.dct (dctD ns fun n => .lst (sD (T n)))) (.str n) = some (.lst (sD (T n))) := look_dctD (v := fun n => .lst (sD (T n))) hn
      have h2 := dLc_ok (u := u) D.str (fun y => decide (y ∈ told n)) D.str ns (fi := dItems (dVar 1)) (tg := .nm 6) (t := dTst (dOp oInD (dVar 6) (dOp oIx (dVar 3) (dVar 5)))) (e := dVar 6) (vs := [6]) (ρ := (wipeE (frz (tdE (bkD ns tl) ns tl T a b c)) [5]).set 5 (.val (.str n))) (by unfold tdE; cases a <;> cases b <;> cases c <;> rfl) (by omega) fun y hy => ⟨_, rfl, by
        have e : oInD (.str y) (.lst (sD (T n))) = some (.bl (decide (y ∈ told n))) := by
          unfold oInD
          rw [in_lstS (kg.ok y hy) (okN_sub kg.ok (hT.sub n hn))]
          simp [hTt n hn y]
        unfold tdE
        cases a <;> cases b <;> cases c <;> simp [wipeE, x_tst, i1, e, vS], fun _ => by
        unfold tdE
        cases a <;> cases b <;> cases c <;> simp [wipeE, vS]⟩
      rw [← k.srt n hn] at h2
      have h5 : dVar 5 ((wipeE (frz (tdE (bkD ns tl) ns tl T a b c)) [5]).set 5 (.val (.str n))) u = .ok (.str n) u := by unfold tdE; cases a <;> cases b <;> cases c <;> rfl
      simp only [x_bnd, h5, h2, x_nil, x_retM, x_opt1, List.length_cons, List.length_nil, s2, x_chk]
  have e5 : sSetN 3 (lendNG (dCall oDctP (dCons (dLc (dItems (dVar 1)) (.nm 5) dYes (dTup (dCons (dVar 5) (dCons (dLc (dItems (dVar 1)) (.nm 6) (dTst (dOp oInD (dVar 6) (dOp oIx (dVar 3) (dVar 5)))) (dVar 6) [6]) dNil))) [5]) dNil))) (tdE (bkD ns tl) ns tl T a b c) u =
      .nx (tdE (bkD ns tl) ns tl told a b c) u := by
    have hd2 := oDctP_map (v := fun n => .lst (sD (told n))) kg.nd
    have hob : isOb (.dct (dctD ns fun n => .lst (sD (told n)))) = false := rfl
    have hlend : lendNG (dCall oDctP (dCons (dLc (dItems (dVar 1)) (.nm 5) dYes (dTup (dCons (dVar 5) (dCons (dLc (dItems (dVar 1)) (.nm 6) (dTst (dOp oInD (dVar 6) (dOp oIx (dVar 3) (dVar 5)))) (dVar 6) [6]) dNil))) [5]) dNil)) (tdE (bkD ns tl) ns tl T a b c) u = .ok (.dct (dctD ns fun n => .lst (sD (told n)))) u := by
      refine x_lendNG_ok ?_ ?_
      · simp [e4, hd2]
      · unfold noKP
        rw [td_own.1, td_own.2.1, td_own.2.2]
        show noKs false true false ((dctD ns fun n => D.lst (sD (told n))).map (·.2)) = true
        unfold dctD
        rw [List.map_map]
        have : ∀ l : List Str, noKs false true false (l.map fun n => D.lst (sD (told n))) = true := by
          intro l
          induction l with
          | nil => unfold noKs; rfl
          | cons n l ih => rw [List.map_cons]; unfold noKs; rw [ih]; unfold noK; rw [noKs_sD]; rfl
        exact this ns
    unfold sSetN
    rw [hlend, x_then1]
    simp only [hob]
    rfl
  rw [x_seq, e5, x_seq1, x_seq]
  have e6 : sPut 3 (dC (.str "#")) (dCall oList (dCons (dVar 1) dNil)) (tdE (bkD ns tl) ns tl told a b c) u = .nx [.val (bkD ns tl), .val (.tup (sD ns)), .val (.tup (tl.map tpD)), .own (toldD ns told), vS a, vS b, vS c, .no, .no] u := by
    have hk : keyD (.str "#") = some ((Sum.inr ("#" : Str)) : Key) := rfl
    have hs2 : small (dctD ns fun n => D.lst (sD (told n))).length = true := by
      unfold small dctD
      rw [List.length_map]
      exact decide_eq_true (by omega)
    have hp := putD_new (kds := dctD ns fun n => D.lst (sD (told n))) (k := (Sum.inr ("#" : Str) : Key)) (v := .lst (sD ns)) fun kv hkv e => by
      obtain ⟨n, hn, rfl⟩ := List.mem_map.mp hkv
      have e : n = ("#" : Str) := Sum.inr.inj e
      exact kg.nh (e ▸ hn)
    unfold sPut tdE
    simp [hk, hs2, hp, oList, toldD]
  rw [e6, x_seq1]
  refine ok_end ?_
  cases a <;> cases b <;> cases c <;> rfl
end
end Pr
set_option Elab.async false
set_option linter.all false
set_option maxRecDepth 100000
set_option maxHeartbeats 4000000
/-! Cg: the same, bools within too; drawn comprehensions; keywords. -/
namespace Dl
open PySem L2 Evl
/-! plb: no dict, no object within -/
mutual
def plb : D → Bool
  | .non => true | .int _ => true | .str s => PyData.strOk s | .bl _ => true
  | .lst xs => plbs xs | .tup xs => plbs xs
  | .dct _ => false | .obj _ _ => false | .exc _ _ => false | .urn => false
def plbs : List D → Bool
  | [] => true
  | x :: xs => plb x && plbs xs
end
mutual
theorem plb_of : ∀ {x : D}, pln x = true → plb x = true
  | .non, _ => rfl
  | .int _, _ => rfl
  | .str s, h => by unfold pln at h; unfold plb; exact h
  | .bl _, _ => rfl
  | .lst xs, h => by unfold pln at h; unfold plb; exact plbs_of h
  | .tup xs, h => by unfold pln at h; unfold plb; exact plbs_of h
  | .dct _, h => by simp [pln] at h
  | .obj _ _, h => by simp [pln] at h
  | .exc _ _, h => by simp [pln] at h
  | .urn, h => by simp [pln] at h
theorem plbs_of : ∀ {xs : List D}, plns xs = true → plbs xs = true
  | [], _ => rfl
  | x :: xs, h => by
    unfold plns at h
    rw [Bool.and_eq_true] at h
    unfold plbs
    rw [plb_of h.1, plbs_of h.2]; rfl
end
mutual
theorem eqv_self : ∀ {x : D}, plb x = true → PyData.eqv (toPy x) (toPy x) = true
  | .non, _ => by simp [toPy, PyData.eqv]
  | .int i, _ => by simp [toPy, PyData.eqv]
  | .str s, _ => by simp [toPy, PyData.eqv]
  | .bl b, _ => by simp [toPy, PyData.eqv]
  | .lst xs, h => by unfold plb at h; simp only [toPy, PyData.eqv]; exact eqvs_self h
  | .tup xs, h => by unfold plb at h; simp only [toPy, PyData.eqv]; exact eqvs_self h
  | .dct _, h => by simp [plb] at h
  | .obj _ _, h => by simp [plb] at h
  | .exc _ _, h => by simp [plb] at h
  | .urn, h => by simp [plb] at h
theorem eqvs_self : ∀ {xs : List D}, plbs xs = true → PyData.eqvAll (toPys xs) (toPys xs) = true
  | [], _ => by simp [toPys, PyData.eqvAll]
  | x :: xs, h => by
    unfold plbs at h
    rw [Bool.and_eq_true] at h
    simp only [toPys, PyData.eqvAll, Bool.and_eq_true]
    exact ⟨eqv_self h.1, eqvs_self h.2⟩
end
mutual
theorem layb_of : ∀ {x : D}, plb x = true → isPy x = true ∧ (toPy x).canLay0 = true ∧ (toPy x).depth ≤ dep x
  | .non, _ => by simp [isPy, toPy, PyData.canLay0, PyData.depth]
  | .int _, _ => by simp [isPy, toPy, PyData.canLay0, PyData.depth]
  | .bl _, _ => by simp [isPy, toPy, PyData.canLay0, PyData.depth]
  | .str _, h => by simp [plb] at h; simp [isPy, toPy, PyData.canLay0, PyData.depth, h]
  | .lst xs, h => by
    unfold plb at h
    obtain ⟨a, b, c⟩ := laysb_of h
    simp only [isPy, toPy, PyData.canLay0, PyData.depth, dep]
    exact ⟨a, b, by omega⟩
  | .tup xs, h => by
    unfold plb at h
    obtain ⟨a, b, c⟩ := laysb_of h
    simp only [isPy, toPy, PyData.canLay0, PyData.depth, dep]
    exact ⟨a, b, by omega⟩
  | .dct _, hx => by simp [plb] at hx
  | .obj _ _, hx => by simp [plb] at hx
  | .exc _ _, hx => by simp [plb] at hx
  | .urn, hx => by simp [plb] at hx
theorem laysb_of : ∀ {xs : List D}, plbs xs = true → isPys xs = true ∧ PyData.canLayAll0 (toPys xs) = true ∧ PyData.depthAll (toPys xs) ≤ deps xs
  | [], _ => by simp [isPys, toPys, PyData.canLayAll0, PyData.depthAll]
  | x :: xs, h => by
    unfold plbs at h
    rw [Bool.and_eq_true] at h
    obtain ⟨a, b, c⟩ := layb_of h.1
    obtain ⟨a', b', c'⟩ := laysb_of h.2
    simp only [isPys, toPys, PyData.canLayAll0, PyData.depthAll, deps, a, b, a', b', Bool.and_self, true_and]
    omega
end
theorem shpb_ok {x : D} (h : plb x = true) (hd : dep x ≤ 64) : shp x = true := by
  obtain ⟨a, b, c⟩ := layb_of h
  unfold shp SeqAt.shaped
  rw [a, b, decide_eq_true (Nat.le_trans c hd)]; rfl
theorem oEq_self {x : D} (h : plb x = true) (hd : dep x ≤ 64) : oEq x x = some (.bl true) := by
  unfold oEq
  rw [shpb_ok h hd, eqv_self h]; rfl
theorem plbs_mem : ∀ {xs : List D} {x : D}, plbs xs = true → x ∈ xs → plb x = true
  | y :: ys, x, h, hx => by
    unfold plbs at h
    rw [Bool.and_eq_true] at h
    rcases List.mem_cons.mp hx with e | e
    · rw [e]; exact h.1
    · exact plbs_mem h.2 e
/-- a row all of whose items are so -/
theorem plbs_map {α : Type} {f : α → D} : ∀ {ys : List α}, (∀ y ∈ ys, plb (f y) = true) → plbs (ys.map f) = true
  | [], _ => rfl
  | y :: ys, h => by rw [List.map_cons]; unfold plbs; rw [h y List.mem_cons_self, plbs_map fun z hz => h z (List.mem_cons_of_mem _ hz)]; rfl
theorem wids_map {α : Type} {f : α → D} : ∀ {ys : List α}, (∀ y ∈ ys, wid (f y) = true) → wids (ys.map f) = true
  | [], _ => rfl
  | y :: ys, h => by rw [List.map_cons]; unfold wids; rw [h y List.mem_cons_self, wids_map fun z hz => h z (List.mem_cons_of_mem _ hz)]; rfl
theorem deps_map {α : Type} {f : α → D} {n : Nat} : ∀ {ys : List α}, (∀ y ∈ ys, dep (f y) ≤ n) → deps (ys.map f) ≤ n
  | [], _ => Nat.zero_le _
  | y :: ys, h => by
    rw [List.map_cons]; unfold deps
    have := h y List.mem_cons_self
    have := deps_map (n := n) fun z hz => h z (List.mem_cons_of_mem y hz)
    omega
theorem plbs_app : ∀ {xs ys : List D}, plbs xs = true → plbs ys = true → plbs (xs ++ ys) = true
  | [], _, _, h => h
  | x :: xs, ys, h, g => by
    unfold plbs at h
    rw [Bool.and_eq_true] at h
    rw [List.cons_append]; unfold plbs
    rw [h.1, plbs_app h.2 g]; rfl
theorem wids_app : ∀ {xs ys : List D}, wids xs = true → wids ys = true → wids (xs ++ ys) = true
  | [], _, _, h => h
  | x :: xs, ys, h, g => by
    unfold wids at h
    rw [Bool.and_eq_true] at h
    rw [List.cons_append]; unfold wids
    rw [h.1, wids_app h.2 g]; rfl
theorem deps_app {n : Nat} : ∀ {xs ys : List D}, deps xs ≤ n → deps ys ≤ n → deps (xs ++ ys) ≤ n
  | [], _, _, h => h
  | x :: xs, ys, h, g => by
    unfold deps at h
    rw [List.cons_append]; unfold deps
    have := deps_app (n := n) (xs := xs) (ys := ys) (by omega) g
    omega
/-- a comprehension whose test draws: some of the items -/
theorem lcGo_draw {α : Type} (enc : α → D) (g : α → D) {tg : Tg} {t : DB} {e : DE} {ρ : En} {n : Nat} : ∀ (ys : List α) (u : U), GU (n + ys.length) u → (∀ y ∈ ys, ∀ (m : Nat) (u : U), GU (m + 1) u → ∃ ρ1 b u', bindT tg (enc y) ρ = some ρ1 ∧ t ρ1 u = .ok b u' ∧ GU m u' ∧ (b = true → e ρ1 u' = .ok (g y) u')) →
    ∃ (zs : List α) (u' : U), dLcGo tg t e ρ (ys.map enc) u = .ok (zs.map g) u' ∧ zs.Sublist ys ∧ GU n u'
  | [], u, h0, _ => ⟨[], u, rfl, List.Sublist.refl _, h0⟩
  | y :: ys, u, h0, h => by
    obtain ⟨ρ1, b, u1, h1, h2, h3, h4⟩ := h y List.mem_cons_self (n + ys.length) u h0
    obtain ⟨zs, u', h5, h6, h7⟩ := lcGo_draw enc g (tg := tg) (t := t) (e := e) (ρ := ρ) (n := n) ys u1 h3 fun z hz => h z (List.mem_cons_of_mem _ hz)
    rw [List.map_cons]
    cases b with
    | false =>
      refine ⟨zs, u', ?_, h6.cons y, h7⟩
      unfold dLcGo
      simp only [h1, x_bnd, x_opt1, nx_ok h2, Bool.false_eq_true, if_false]
      exact h5
    | true =>
      refine ⟨y :: zs, u', ?_, h6.cons₂ y, h7⟩
      unfold dLcGo
      simp only [h1, x_bnd, x_opt1, nx_ok h2, if_true, nx_ok (h4 rfl), h5, x_retM, List.map_cons]
theorem dLc_draw {α : Type} (enc : α → D) (g : α → D) (ys : List α) {fi : DI} {tg : Tg} {t : DB} {e : DE} {vs : List Nat} {ρ : En} {u : U} {n : Nat} (h1 : fi ρ u = .ok (ys.map enc) u) (hs : ys.length ≤ 100000) (h0 : GU (n + ys.length) u)
    (h : ∀ y ∈ ys, ∀ (m : Nat) (u : U), GU (m + 1) u → ∃ ρ1 b u', bindT tg (enc y) (wipeE ρ vs) = some ρ1 ∧ t ρ1 u = .ok b u' ∧ GU m u' ∧ (b = true → e ρ1 u' = .ok (g y) u')) : ∃ (zs : List α) (u' : U), dLc fi tg t e vs ρ u = .ok (.lst (zs.map g)) u' ∧ zs.Sublist ys ∧ GU n u' := by
  have hs : small (ys.map enc).length = true := by unfold small; rw [List.length_map]; exact decide_eq_true hs
  obtain ⟨zs, u', h5, h6, h7⟩ := lcGo_draw enc g (tg := tg) (t := t) (e := e) (ρ := wipeE ρ vs) (n := n) ys u h0 h
  refine ⟨zs, u', ?_, h6, h7⟩
  unfold dLc
  simp only [x_bnd, h1, hs, x_chk, x_opt1, h5, x_retM]
theorem x_kw (is : List Nat) (g h : DA) (ρ : En) : dKw is g h ρ = bnd (g ρ) fun xs => bnd (h ρ) fun ys => opt (prm is (xs ++ ys)) := rfl
theorem x_own2 (c : Nat) (tb : Ty → Bool) (m : DF) (f g : DE) (ρ : En) : dOwn2 c tb m f g ρ = bnd (f ρ) fun x => bnd (g ρ) fun y => if isOf c x = true ∧ (tyD y).any tb = true then m [x, y] else stuck := rfl
theorem x_lenOwn (c : Nat) (m : DF) (f : DE) (ρ : En) : dLenOwn c m f ρ = bnd (f ρ) fun x => if isOf c x = true then bnd (m [x]) fun r => opt (isLen r) else stuck := rfl
theorem len_nat {n : Nat} (h : n ≤ 100000) : isLen (.int (n : Nat)) = some (.int (n : Nat)) := by
  show chk (decide _) _ = _
  rw [decide_eq_true (by omega)]; rfl
theorem lenOwn_ok {c : Nat} {m : DF} {f : DE} {ρ : En} {u : U} {x : D} {n : Nat} (h1 : f ρ u = .ok x u) (h2 : isOf c x = true) (h3 : m [x] u = .ok (.int (n : Nat)) u) (hn : n ≤ 100000) : dLenOwn c m f ρ u = .ok (.int (n : Nat)) u := by
  unfold dLenOwn
  rw [bnd_ok h1, if_pos h2, bnd_ok h3, len_nat hn]
  unfold opt; rfl
end Dl
namespace Pr
open PySem L2 Evl Dl
theorem same_refl2 : ∀ (n : Nat) (x : D) (u : U), plb x = true → wid x = true → dep x < n → dep x ≤ 60 → r__law_same n [x, x] u = .ok (.bl true) u
  | 0, x, u, _, _, h, _ => absurd h (Nat.not_lt_zero _)
  | n + 1, x, u, hp, hw, hd, h60 => by
    have heq : oEq x x = some (.bl true) := oEq_self hp (by omega)
    show runB 4 (b__law_same (r__law_same n)) [x, x] u = _
    cases x with
    | non =>
      have i1 : isiD tb_list_tuple .non = some (.bl false) := rfl
      have i2 : isiD tb_bool .non = some (.bl false) := rfl
      have i3 : isNonD .non = true := rfl
      unfold b__law_same
      simp [x_lendB, x_isi, i1, i2, i3, tru_bl, x_tst, is_non, heq, eq_bl, dAndV]
    | bl b =>
      have i1 : isiD tb_list_tuple (.bl b) = some (.bl false) := rfl
      have i2 : isiD tb_bool (.bl b) = some (.bl true) := rfl
      have i4 : isiD tb_bool_str (.bl b) = some (.bl true) := rfl
      have i3 : isNonD (.bl b) = false := rfl
      unfold b__law_same
      simp [x_lendB, x_isi, i1, i2, i3, i4, tru_bl, x_tst, is_non, heq, eq_bl, dAndV]
    | int i =>
      have i1 : isiD tb_list_tuple (.int i) = some (.bl false) := rfl
      have i2 : isiD tb_bool_str (.int i) = some (.bl false) := rfl
      have i3 : isNonD (.int i) = false := rfl
      have i4 : isiD tb_int (.int i) = some (.bl true) := rfl
      have i5 : isiD tb_bool (.int i) = some (.bl false) := rfl
      unfold b__law_same
      simp [x_lendB, x_isi, i1, i2, i3, i4, i5, tru_bl, x_tst, is_non, heq, eq_bl, dAndV, dNotV]
    | str s =>
      have i1 : isiD tb_list_tuple (.str s) = some (.bl false) := rfl
      have i2 : isiD tb_bool_str (.str s) = some (.bl true) := rfl
      have i3 : isNonD (.str s) = false := rfl
      have i5 : isiD tb_bool (.str s) = some (.bl false) := rfl
      unfold b__law_same
      simp [x_lendB, x_isi, i1, i2, i3, i5, tru_bl, x_tst, is_non, heq, eq_bl, dAndV]
    | dct _ => simp [plb] at hp
    | obj _ _ => simp [plb] at hp
    | exc _ _ => simp [plb] at hp
    | urn => simp [plb] at hp
    | lst xs =>
      unfold plb at hp
      unfold wid at hw
      rw [Bool.and_eq_true] at hw
      have hl := of_decide_eq_true hw.1
      have hde : dep (.lst xs) = deps xs + 1 := by unfold dep; rfl
      have i1 : isiD tb_list_tuple (.lst xs) = some (.bl true) := rfl
      have i2 : isiD tb_list (.lst xs) = some (.bl true) := rfl
      have i3 : isiD tb_tuple (.lst xs) = some (.bl false) := rfl
      have el := eq_int (xs.length : Int) (xs.length : Int)
      have hc := dLc_ok (u := u) (fun x => D.tup [x, x]) (fun _ => true) (fun _ => D.bl true) xs (fi := dZipA (dCons (dVar 0) (dCons (dVar 1) dNil))) (tg := .tp [2, 3]) (t := dYes) (e := dCallF (r__law_same n) [] (dCons (dVar 2) (dCons (dVar 3) dNil))) (vs := [2, 3]) (ρ := [.val (.lst xs), .val (.lst xs), .no, .no])
        (by simp [dZipA, oLs2A, zip_self]) (by omega) fun y hy => ⟨[.val (.lst xs), .val (.lst xs), .val y, .val y], rfl, rfl, fun _ => by
          have ih := same_refl2 n y u (plbs_mem hp hy) (wids_mem hw.2 hy) (by have := deps_mem hy; omega) (by have := deps_mem hy; omega)
          simp [ih]⟩
      rw [List.filter_eq_self.mpr fun _ _ => rfl] at hc
      have ha := all_map (fun _ => true) xs
      rw [List.all_eq_true.mpr fun _ _ => rfl] at ha
      unfold b__law_same
      simp [x_lendB, x_isi, i1, i2, i3, tru_bl, x_tst, ne_bl, dAndV, oLen, el, hc, ha, List.replicate]
    | tup xs =>
      unfold plb at hp
      unfold wid at hw
      rw [Bool.and_eq_true] at hw
      have hl := of_decide_eq_true hw.1
      have hde : dep (.tup xs) = deps xs + 1 := by unfold dep; rfl
      have i1 : isiD tb_list_tuple (.tup xs) = some (.bl true) := rfl
      have i2 : isiD tb_list (.tup xs) = some (.bl false) := rfl
      have i3 : isiD tb_tuple (.tup xs) = some (.bl true) := rfl
      have el := eq_int (xs.length : Int) (xs.length : Int)
      have hc := dLc_ok (u := u) (fun x => D.tup [x, x]) (fun _ => true) (fun _ => D.bl true) xs (fi := dZipA (dCons (dVar 0) (dCons (dVar 1) dNil))) (tg := .tp [2, 3]) (t := dYes) (e := dCallF (r__law_same n) [] (dCons (dVar 2) (dCons (dVar 3) dNil))) (vs := [2, 3]) (ρ := [.val (.tup xs), .val (.tup xs), .no, .no])
        (by simp [dZipA, oLs2A, zip_self]) (by omega) fun y hy => ⟨[.val (.tup xs), .val (.tup xs), .val y, .val y], rfl, rfl, fun _ => by
          have ih := same_refl2 n y u (plbs_mem hp hy) (wids_mem hw.2 hy) (by have := deps_mem hy; omega) (by have := deps_mem hy; omega)
          simp [ih]⟩
      rw [List.filter_eq_self.mpr fun _ _ => rfl] at hc
      have ha := all_map (fun _ => true) xs
      rw [List.all_eq_true.mpr fun _ _ => rfl] at ha
      unfold b__law_same
      simp [x_lendB, x_isi, i1, i2, i3, tru_bl, x_tst, ne_bl, dAndV, oLen, el, hc, ha, List.replicate]
theorem same_ok {x : D} {u : U} (hp : plb x = true) (hw : wid x = true) (hd : dep x < 6) : m__law_same [x, x] u = .ok (.bl true) u := same_refl2 6 x u hp hw hd (by omega)
section
variable {ns : List Str} {told : Str → List Str} {u : U}
theorem plb_sD (h : okN ns) : plbs (sD ns) = true := plbs_of (pln_sD h)
theorem eq_dct2 {vs ws : Str → List Str} (hn : ns.length ≤ 1000) (hv : ∀ x ∈ ns, okN (vs x)) (hw : ∀ x ∈ ns, okN (ws x)) : oEqA (.dct (dctD ns fun n => .tup (sD (vs n)))) (.dct (dctD ns fun n => .tup (sD (ws n)))) = some (.bl (ns.all fun x => decide (vs x = ws x))) := by
  have hs : ∀ (f : Str → List Str) (l : List Str), (∀ x ∈ l, okN (f x)) → shps (dctD l fun n => .tup (sD (f n))) = true := by
    intro f l
    induction l with
    | nil => intro _; rfl
    | cons x l ih =>
      intro h
      show (shp (.tup (sD (f x))) && shps (dctD l fun n => .tup (sD (f n)))) = true
      rw [ih fun y hy => h y (List.mem_cons_of_mem _ hy), shp_ok (by unfold pln; exact pln_sD (h x List.mem_cons_self)) (by unfold dep; rw [deps_sD]; decide)]; rfl
  have he : ∀ l : List Str, (∀ x ∈ l, x ∈ ns) → eqKvs (dctD ns fun n => .tup (sD (ws n))) (dctD l fun n => .tup (sD (vs n))) = l.all fun x => decide (vs x = ws x) := by
    intro l
    induction l with
    | nil => intro _; rfl
    | cons x l ih =>
      intro h
      have hx := h x List.mem_cons_self
      have h1 : pln (.tup (sD (vs x))) = true := by unfold pln; exact pln_sD (hv x hx)
      have h2 : pln (.tup (sD (ws x))) = true := by unfold pln; exact pln_sD (hw x hx)
      show (match lookD (dctD ns fun n => .tup (sD (ws n))) (Sum.inr x) with
        | some y => PyData.eqv (toPy (.tup (sD (vs x)))) (toPy y) && eqKvs (dctD ns fun n => .tup (sD (ws n))) (dctD l fun n => .tup (sD (vs n)))
        | none => false) = _
      rw [look_dctD (v := fun n => .tup (sD (ws n))) hx, List.all_cons]
      dsimp only
      rw [ih fun y hy => h y (List.mem_cons_of_mem _ hy)]
      congr 1
      rw [Bool.eq_iff_iff, eqv_of h1 h2, decide_eq_true_iff]
      simp [sD_inj]
  show (oEq _ _).or (oEqDct _ _) = _
  have h1 : oEq (.dct (dctD ns fun n => .tup (sD (vs n)))) (.dct (dctD ns fun n => .tup (sD (ws n)))) = none := rfl
  rw [h1]
  show chk _ _ = _
  rw [hs vs ns hv, hs ws ns hw, he ns fun _ h => h]
  have hl : ((dctD ns fun n => D.tup (sD (vs n))).length == (dctD ns fun n => D.tup (sD (ws n))).length) = true := by unfold dctD; rw [List.length_map, List.length_map]; exact beq_self_eq_true _
  rw [hl]
  simp [chk]
/-- Keys of the same names -/
theorem eq_spec2 {t2 : Str → List Str} (k : KG ns told) (k2 : KG ns t2) : m_Keys_D_eqD_ [keysD ns told, keysD ns t2] u = .ok (.bl (ns.all fun x => decide (told x = t2 x))) u := by
  have e1 := eq_tupS k.ok k.ok
  have e2 := eq_dct2 (ns := ns) (vs := told) (ws := t2) (by have := k.len; omega) (fun x hx => k.okt hx) fun x hx => k2.okt hx
  have i1 : isiD tb_Keys (keysD ns t2) = some (.bl true) := rfl
  unfold m_Keys_D_eqD_ b_Keys_D_eqD_
  simp [x_isi, i1, x_fld, g_names, g_told, e1, e2, dAndV]
/-- Keys of other names -/
theorem eq_spec3 {ns2 : List Str} {t2 : Str → List Str} (h1 : okN ns) (h2 : okN ns2) (hne : ns ≠ ns2) : m_Keys_D_eqD_ [keysD ns told, keysD ns2 t2] u = .ok (.bl false) u := by
  have e1 := eq_tupS h1 h2
  have i1 : isiD tb_Keys (keysD ns2 t2) = some (.bl true) := rfl
  unfold m_Keys_D_eqD_ b_Keys_D_eqD_
  simp [x_isi, i1, x_fld, g_names, g_told, e1, hne, dAndV]
theorem eq_other {d : D} (h : isiD tb_Keys d = some (.bl false)) : m_Keys_D_eqD_ [keysD ns told, d] u = .ok (.bl false) u := by
  unfold m_Keys_D_eqD_ b_Keys_D_eqD_
  simp [x_isi, h, dAndV]
end
end Pr
set_option Elab.async false
set_option linter.all false
set_option maxRecDepth 100000
set_option maxHeartbeats 4000000
/-! Le: some drawn; lists for tuples; what Keys answer more. -/
namespace Pr
open PySem L2 Evl Dl
section
variable {ns : List Str} {told : Str → List Str} {tl : List (Str × Str)} {u : U}
theorem few_spec {n : Nat} (hl : ns.length ≤ 1000) (g : GU (n + ns.length) u) : ∃ (fs : List Str) (u' : U), m__law_few [.urn, .tup (sD ns), .int 2] u = .ok (.tup (sD fs)) u' ∧ fs.Sublist ns ∧ GU n u' := by
  obtain ⟨zs, u', h1, h2, h3⟩ := dLc_draw (u := u) (n := n) D.str D.str ns (fi := dItems (dVar 1)) (tg := .nm 3) (t := dTst (dOp oEq (dCallF m__law_take [] (dCons (dVar 0) (dCons (dVar 2) dNil))) (dC (.int 0)))) (e := dVar 3) (vs := [3]) (ρ := [.val .urn, .val (.tup (sD ns)), .val (.int 2), .no]) rfl (by omega) g fun y hy m u g => by
    obtain ⟨r, u1, e1, r0, r1, g1⟩ := take_spec (m := 2) g (by decide) (by decide)
    refine ⟨[.val .urn, .val (.tup (sD ns)), .val (.int 2), .val (.str y)], decide (r = 0), u1, rfl, ?_, g1, fun _ => rfl⟩
    simp [x_tst, e1, eq_int]
  refine ⟨zs, u', ?_, h2, h3⟩
  unfold m__law_few b__law_few
  rw [x_runB, show ρ0 4 [D.urn, .tup (sD ns), .int 2] = [.val .urn, .val (.tup (sD ns)), .val (.int 2), .no] from rfl, x_ret]
  simp [h1, oTuple]
theorem lists_str (n : Nat) (s : Str) : r__law_lists (n + 1) [.str s] u = .ok (.str s) u := by
  show runB 2 (b__law_lists (r__law_lists n)) [.str s] u = _
  have i1 : isiD tb_list_tuple (.str s) = some (.bl false) := rfl
  unfold b__law_lists
  simp [x_isi, i1, tru_bl, List.replicate]
theorem lists_pr (n : Nat) (p : Str × Str) : r__law_lists (n + 2) [tpD p] u = .ok (prB false p) u := by
  show runB 2 (b__law_lists (r__law_lists (n + 1))) [tpD p] u = _
  have i1 : isiD tb_list_tuple (tpD p) = some (.bl true) := rfl
  have hc := dLc_ok (u := u) D.str (fun _ => true) D.str [p.1, p.2] (fi := dItems (dVar 0)) (tg := .nm 1) (t := dYes) (e := dCallF (r__law_lists (n + 1)) [] (dCons (dVar 1) dNil)) (vs := [1]) (ρ := [.val (tpD p), .no]) rfl (by show 2 ≤ 100000; decide) fun y hy => ⟨[.val (tpD p), .val (.str y)], rfl, rfl, fun _ => by simp [lists_str]⟩
  unfold b__law_lists
  simp [x_isi, i1, tru_bl, List.replicate, hc, prB, seqD]
theorem lists_names (hl : ns.length ≤ 1000) : n__law_lists [.tup (sD ns)] u = .ok (.lst (sD ns)) u := by
  have i1 : isiD tb_list_tuple (.tup (sD ns)) = some (.bl true) := rfl
  have hc := dLc_ok (u := u) D.str (fun _ => true) D.str ns (fi := dItems (dVar 0)) (tg := .nm 1) (t := dYes) (e := dCallF m__law_lists [] (dCons (dVar 1) dNil)) (vs := [1]) (ρ := [.val (.tup (sD ns)), .no]) rfl (by omega) fun y hy => ⟨[.val (.tup (sD ns)), .val (.str y)], rfl, rfl, fun _ => by
    have := lists_str (u := u) 5 y
    have : m__law_lists [.str y] u = .ok (.str y) u := this
    simp [this]⟩
  rw [List.filter_eq_self.mpr fun _ _ => rfl] at hc
  unfold n__law_lists Dl.runN dIfT
  rw [show ρ0 2 [D.tup (sD ns)] = [.val (.tup (sD ns)), .no] from rfl]
  simp [x_isi, i1, tru_bl, hc]
theorem lists_pairs (hl : tl.length ≤ 1000) : n__law_lists [.tup (tl.map tpD)] u = .ok (.lst (tl.map (prB false))) u := by
  have i1 : isiD tb_list_tuple (.tup (tl.map tpD)) = some (.bl true) := rfl
  have hc := dLc_ok (u := u) tpD (fun _ => true) (prB false) tl (fi := dItems (dVar 0)) (tg := .nm 1) (t := dYes) (e := dCallF m__law_lists [] (dCons (dVar 1) dNil)) (vs := [1]) (ρ := [.val (.tup (tl.map tpD)), .no]) rfl (by omega) fun y hy => ⟨[.val (.tup (tl.map tpD)), .val (tpD y)], rfl, rfl, fun _ => by
    have : m__law_lists [tpD y] u = .ok (prB false y) u := lists_pr (u := u) 4 y
    simp [this]⟩
  rw [List.filter_eq_self.mpr fun _ _ => rfl] at hc
  unfold n__law_lists Dl.runN dIfT
  rw [show ρ0 2 [D.tup (tl.map tpD)] = [.val (.tup (tl.map tpD)), .no] from rfl]
  simp [x_isi, i1, tru_bl, hc]
theorem len_spec : m_Keys_D_lenD_ [keysD ns told] u = .ok (.int (ns.length : Nat)) u := by
  have e : oLen [.tup (sD ns)] = some (.int (ns.length : Nat)) := by show some (D.int ((sD ns).length : Nat)) = _; unfold sD; rw [List.length_map]
  unfold m_Keys_D_lenD_ b_Keys_D_lenD_
  simp [x_fld, g_names, e]
theorem contains_spec {n : Str} (hn : PyData.strOk n = true) (h : okN ns) : m_Keys_D_containsD_ [keysD ns told, .str n] u = .ok (.bl (decide (n ∈ ns))) u := by
  have e : oInD (.str n) (.tup (sD ns)) = some (.bl (decide (n ∈ ns))) := by unfold oInD; rw [in_tupS hn h]; rfl
  unfold m_Keys_D_containsD_ b_Keys_D_containsD_
  simp [x_fld, g_names, e]
/-- Keys of names in any order, mentioned twice too, of tellings in any order, tuples or lists -/
theorem keys_made {nms : List Str} {tl2 : List (Str × Str)} {bn bt bp : Bool} (ko : KO ns (clo (dmOf tl))) (hs : ns.length ≤ 5) (hC : tl.length ≤ 10) (hv : ∀ p ∈ tl, p.1 ∈ ns ∧ p.2 ∈ ns) (hsn : sset nms = ns) (hl : nms.length < 64) (hp : tl2.Perm tl) :
    i_Keys_D_initD_ [seqD bn (sD nms), seqD bt (tl2.map (prB bp))] u = .ok (keysF ns (clo (dmOf tl))) u := by
  have kg := ko.toKG
  have hmn : ∀ x, x ∈ nms ↔ x ∈ ns := fun x => by rw [← hsn]; exact mem_sset.symm
  have hv2 : ∀ p ∈ tl2, p.1 ∈ ns ∧ p.2 ∈ ns := fun p h => hv p (hp.mem_iff.mp h)
  have hB : ∀ m, m ≤ 5 → 10 + 10 * m < 64 := by decide
  have hB := hB ns.length hs
  have hl2 : tl2.length ≤ 10 := by rw [hp.length_eq]; exact hC
  have hC1 : ∀ x ∈ ns, (dmOf tl x).length ≤ 10 := fun x _ => Nat.le_trans (dmOf_len tl x) hC
  have hC2 : ∀ x ∈ ns, (dmOf tl2 x).length ≤ 10 := fun x _ => Nat.le_trans (dmOf_len tl2 x) hl2
  have hd1 : ∀ x ∈ ns, ∀ y ∈ dmOf tl x, y ∈ ns := fun x _ y hy => (hv _ (mem_dmOf.mp hy)).2
  have hd2 : ∀ x ∈ ns, ∀ y ∈ dmOf tl2 x, y ∈ ns := fun x _ y hy => (hv2 _ (mem_dmOf.mp hy)).2
  have hm : ∀ x y, y ∈ dmOf tl2 x ↔ y ∈ dmOf tl x := fun x y => by rw [mem_dmOf, mem_dmOf]; exact hp.mem_iff
  have hr : ∀ x y, Rch (dmOf tl2) (dmOf tl2 x) y ↔ Rch (dmOf tl) (dmOf tl x) y := fun x y => by
    constructor
    · intro h
      induction h with
      | base h1 => exact .base ((hm _ _).mp h1)
      | step _ h1 ih => exact .step ih ((hm _ _).mp h1)
    · intro h
      induction h with
      | base h1 => exact .base ((hm _ _).mpr h1)
      | step _ h1 ih => exact .step ih ((hm _ _).mpr h1)
  have heq : ∀ x ∈ ns, clo (dmOf tl2) x = clo (dmOf tl) x := fun x hx => by
    have h1 := (clo_ok hC2 hd2 hx (Nat.le_refl _) hB).1
    have h2 := (clo_ok hC1 hd1 hx (Nat.le_refl _) hB).1
    unfold clo
    exact sset_ext fun y => (mem_sset.symm.trans (h1 y)).trans ((hr x y).trans ((h2 y).symm.trans mem_sset))
  have hring : ringOf ns (clo (dmOf tl2)) = [] := by
    unfold ringOf
    rw [List.filter_eq_nil_iff]
    intro x hx h
    have h := of_decide_eq_true h
    rw [heq x hx] at h
    exact ko.irr x hx h
  have e := init_spec (bn := bn) (bt := bt) (bp := bp) (nms := nms) (tl := tl2) (C := 10) (u := u) (okN_sub kg.ok fun x hx => (hmn x).mp hx) (fun p hp => ⟨kg.ok _ (hv2 p hp).1, kg.ok _ (hv2 p hp).2⟩) (fun p hp => ⟨(hmn _).mpr (hv2 p hp).1, (hmn _).mpr (hv2 p hp).2⟩) hl (fun x hx => hC2 x (by rw [hsn] at hx; exact hx)) (by rw [hsn]; exact hB) (by omega)
  rw [hsn, hring, if_pos rfl, keysF_congr heq] at e
  exact e
end
end Pr
set_option Elab.async false
set_option linter.all false
set_option maxRecDepth 100000
set_option maxHeartbeats 4000000
/-! Wb: statement by statement. -/
namespace Dl
open PySem L2 Evl
section
variable {P : SR → Prop} {k : DS} {ρ ρ' : En} {u u' : U} {d : D}
theorem w_set {i : Nat} {f : DE} (h : f ρ u = .ok d u') (hρ : ρ.set i (.val d) = ρ') (h2 : okS P (k ρ' u')) : okS P (sSeq (sSet i f) k ρ u) := by
  subst hρ
  show P ((sSet i f ρ u).seq k)
  rw [x_set, h]; exact h2
theorem w_setT {tg : Tg} {f : DE} (h : f ρ u = .ok d u') (hρ : bindT tg d ρ = some ρ') (h2 : okS P (k ρ' u')) : okS P (sSeq (sSetT tg f) k ρ u) := by
  show P ((sSetT tg f ρ u).seq k)
  unfold sSetT
  rw [h, x_then1, hρ]; exact h2
theorem w_setM {is : List Nat} {f : DM} {ms : List MD} (h : f ρ u = .ok ms u') (hl : ms.length = is.length) (hρ : setMs is ms ρ = ρ') (h2 : okS P (k ρ' u')) : okS P (sSeq (sSetM is f) k ρ u) := by
  subst hρ
  show P ((sSetM is f ρ u).seq k)
  unfold sSetM
  rw [h, x_then1, if_pos hl]; exact h2
theorem w_setN {i : Nat} {f : DE} (h : f ρ u = .ok d u') (hd : isOb d = false) (hρ : ρ.set i (.own d) = ρ') (h2 : okS P (k ρ' u')) : okS P (sSeq (sSetN i f) k ρ u) := by
  subst hρ
  show P ((sSetN i f ρ u).seq k)
  unfold sSetN
  rw [h, x_then1, hd]; exact h2
theorem w_om {i : Nat} {o : List D → List D → Option (D × List D)} {g : DA} {xs xs' as : List D} (h0 : getO ρ i = some (.lst xs)) (h : g ρ u = .ok as u') (ho : o xs as = some (d, xs')) (hρ : ρ.set i (.own (.lst xs')) = ρ') (h2 : okS P (k ρ' u')) : okS P (sSeq (sOm i o g) k ρ u) := by
  subst hρ
  show P ((sOm i o g ρ u).seq k)
  unfold sOm
  rw [h0]
  dsimp only
  rw [h, x_then1, ho]; exact h2
theorem w_if {c : DB} {f g : DS} {b : Bool} (h : c (frz ρ) u = .ok b u') (h2 : okS P ((if b = true then f ρ u' else g ρ u').seq k)) : okS P (sSeq (sIf c f g) k ρ u) := by
  show P ((sIf c f g ρ u).seq k)
  rw [x_if, x_lendB_ok h, x_then1]; exact h2
/-- a guard that lets pass -/
theorem w_pass {c : DB} {f : DS} (h : c (frz ρ) u = .ok false u') (h2 : okS P (k ρ u')) : okS P (sSeq (sIf c f sNx) k ρ u) := w_if h h2
theorem w_for {α : Type} (enc : α → D) (Inv : Nat → En → U → Prop) {fi : DI} {tg : Tg} {body : DS} {ys : List α} (hi : fi ρ u = .ok (ys.map enc) u') (h0 : Inv 0 ρ u')
    (step : ∀ (i : Nat) (y : α) (ρ : En) (u : U), ys[i]? = some y → Inv i ρ u → ∃ ρ1, bindT tg (enc y) ρ = some ρ1 ∧ okS (fun r => ∃ ρ2 u2, r = .nx ρ2 u2 ∧ Inv (i + 1) ρ2 u2) (body ρ1 u))
    (fin : ∀ (ρ : En) (u : U), Inv ys.length ρ u → okS P (k ρ u)) : okS P (sSeq (sFor fi tg body) k ρ u) := by
  show P ((sFor fi tg body ρ u).seq k)
  rw [x_for, hi, x_then1]
  exact ok_for enc Inv h0 step fin
theorem w_last {f : DS} (h : okS P (sSeq f sNx ρ u)) : okS P (f ρ u) := by
  have e : sSeq f sNx ρ u = f ρ u := by
    show (f ρ u).seq sNx = f ρ u
    cases f ρ u <;> rfl
  rw [← e]; exact h
theorem w_ret {f : DE} (h : f (frz ρ) u = .ok d u') (h2 : P (.rt d u')) : okS P (sRet f ρ u) := by
  show P (sRet f ρ u)
  rw [x_ret, h]; exact h2
theorem w_nx (h : P (.nx ρ u)) : okS P (sNx ρ u) := h
end
end Dl
namespace Pr
open PySem L2 Evl Dl
theorem perm_map {α : Type} (f : α → D) (g : D → α) (hg : ∀ a, g (f a) = a) {zs : List D} {ps : List α} (h : zs.Perm (ps.map f)) : ∃ qs : List α, zs = qs.map f ∧ qs.Perm ps := by
  refine ⟨zs.map g, ?_, ?_⟩
  · rw [List.map_map]
    symm
    rw [List.map_congr_left (g := id), List.map_id]
    intro z hz
    obtain ⟨a, _, rfl⟩ := List.mem_map.mp (h.mem_iff.mp hz)
    show f (g (f a)) = f a
    rw [hg]
  · have := h.map g
    rw [List.map_map] at this
    have e : ps.map (g ∘ f) = ps := by
      rw [List.map_congr_left (g := id), List.map_id]
      intro a _
      exact hg a
    rw [e] at this
    exact this
def unP : D → Str × Str
  | .tup [.str a, .str b] => (a, b)
  | _ => ("a", "a")
/-- not _law_same(got, goal) where both are d -/
theorem same_c {f g : DE} {ρ : En} {u : U} {d : D} (h1 : f ρ u = .ok d u) (h2 : g ρ u = .ok d u) (hp : plb d = true) (hw : wid d = true) (hd : dep d < 6) : dNotB (dTru (dCallF m__law_same [] (dCons f (dCons g dNil)))) ρ u = .ok false u := by
  have h := same_ok (u := u) hp hw hd
  simp [h1, h2, h, tru_bl]
end Pr
set_option Elab.async false
set_option linter.all false
set_option maxRecDepth 100000
set_option maxHeartbeats 4000000
/-! Lf: one turn of _law_right. -/
namespace Dl
open PySem L2 Evl
theorem look_app {ns : List Str} {v : Str → D} {x : Str} {r : List (Key × D)} (h : x ∈ ns) : lookD (dctD ns v ++ r) (Sum.inr x) = some (v x) := by
  have h0 := look_dctD (v := v) h
  unfold lookD at h0 ⊢
  rw [List.find?_append]
  cases e : (dctD ns v).find? (fun kv => decide (kv.1 = Sum.inr x)) with
  | none => rw [e] at h0; cases h0
  | some p => rw [e] at h0; exact h0
theorem look_app2 {ns : List Str} {v : Str → D} {x : Str} {d : D} (h : x ∉ ns) : lookD (dctD ns v ++ [((Sum.inr x : Key), d)]) (Sum.inr x) = some d := by
  unfold lookD
  have e : (dctD ns v).find? (fun kv => decide (kv.1 = Sum.inr x)) = none := by
    rw [List.find?_eq_none]
    intro kv hkv e
    obtain ⟨n, hn, rfl⟩ := List.mem_map.mp hkv
    exact h (Sum.inr.inj (of_decide_eq_true e) ▸ hn)
  rw [List.find?_append, e]
  simp
theorem flatMap_take {α β : Type} (f : α → List β) {l : List α} {i : Nat} {x : α} (h : l[i]? = some x) : (l.take (i + 1)).flatMap f = (l.take i).flatMap f ++ f x := by
  have hi := (List.getElem?_eq_some_iff.mp h).1
  have e := (List.getElem?_eq_some_iff.mp h).2
  rw [List.take_succ_eq_append_getElem hi, List.flatMap_append, e]
  simp
theorem flatMap_len {α β : Type} (f : α → List β) {m : Nat} : ∀ {l : List α}, (∀ x ∈ l, (f x).length ≤ m) → (l.flatMap f).length ≤ m * l.length
  | [], _ => by simp
  | x :: l, h => by
    have h1 := h x List.mem_cons_self
    have h2 := flatMap_len f (m := m) fun y hy => h y (List.mem_cons_of_mem x hy)
    rw [List.flatMap_cons, List.length_append, List.length_cons, Nat.mul_add]
    omega
theorem add_lst {xs ys : List D} (h : xs.length + ys.length ≤ 100000) : oAdd (.lst xs) (.lst ys) = some (.lst (xs ++ ys)) := by
  have hsm : small (xs.length + ys.length) = true := by unfold small; exact decide_eq_true h
  simp [oAdd, oI, oAddS, oAddL, hsm]
theorem add_tup {xs ys : List D} (h : xs.length + ys.length ≤ 100000) : oAdd (.tup xs) (.tup ys) = some (.tup (xs ++ ys)) := by
  have hsm : small (xs.length + ys.length) = true := by unfold small; exact decide_eq_true h
  simp [oAdd, oI, oAddS, oAddL, oAddT, hsm]
end Dl
namespace Pr
open PySem L2 Evl Dl
def rE (o1 o2 o3 o4 o5 o6 o7 o8 o9 : Option D) (s10 s11 : Slot) (o12 o13 o14 o15 : Option D) : En := [.val .urn, vS o1, vS o2, vS o3, vS o4, vS o5, vS o6, vS o7, vS o8, vS o9, s10, s11, vS o12, vS o13, vS o14, vS o15]
theorem frz_rE (o1 o2 o3 o4 o5 o6 o7 o8 o9 : Option D) (s10 s11 : Slot) (o12 o13 o14 o15 : Option D) : frz (rE o1 o2 o3 o4 o5 o6 o7 o8 o9 s10 s11 o12 o13 o14 o15) = rE o1 o2 o3 o4 o5 o6 o7 o8 o9 (frz1 s10) (frz1 s11) o12 o13 o14 o15 := by
  unfold rE
  simp only [x_frzS, frz1_vS, frz1_val]; rfl
section
variable {ns : List Str} {told : Str → List Str} {u : U}
theorem ix_toldD {x : Str} (h : x ∈ ns) : oIx (toldD ns told) (.str x) = some (.lst (sD (told x))) := look_app (v := fun n => D.lst (sD (told n))) h
theorem ix_toldH (h : ("#" : Str) ∉ ns) : oIx (toldD ns told) (.str "#") = some (.lst (sD ns)) := look_app2 (v := fun n => D.lst (sD (told n))) h
/-- the row of all pairs -/
def goalD (ns : List Str) (told : Str → List Str) : D := .lst ((pairsOf ns told).map tpD)
theorem plb_tpD {p : Str × Str} (h1 : PyData.strOk p.1 = true) (h2 : PyData.strOk p.2 = true) : plb (tpD p) = true := plb_of (pln_pr h1 h2)
theorem isO (ns : List Str) (told : Str → List Str) : isOf 4 (keysD ns told) = true := rfl
theorem tyO (ns : List Str) (told : Str → List Str) : (tyD (keysD ns told)).any tbo_Keys = true := rfl
/-- what one tells another: "#" tells all -/
def tf (told : Str → List Str) (a b : Str) : Bool := if a = "#" then decide (b ≠ "#") else decide (b ∈ told a)
theorem tf_spec (k : KG ns told) {a b : Str} (ha : a ∈ ns ∨ a = "#") (hb : b ∈ ns ∨ b = "#") : m_Keys_tells [keysD ns told, .str a, .str b] u = .ok (.bl (tf told a b)) u := by
  unfold tf
  by_cases e : a = "#"
  · subst e
    rw [tells_hash k hb, if_pos rfl]
  · rw [tells_spec k (ha.resolve_right e) hb, if_neg e]
def tlist (ns : List Str) (told : Str → List Str) (a : Str) : List Str := if a = "#" then ns else told a
theorem ix_tlist (k : KG ns told) {a : Str} (ha : a ∈ ns ∨ a = "#") : oIx (toldD ns told) (.str a) = some (.lst (sD (tlist ns told a))) := by
  unfold tlist
  by_cases e : a = "#"
  · subst e; rw [if_pos rfl]; exact ix_toldH k.nh
  · rw [if_neg e]; exact ix_toldD (ha.resolve_right e)
theorem tf_row (k : KG ns told) {a : Str} (ha : a ∈ ns ∨ a = "#") : ((ns ++ [("#" : Str)]).map fun b => D.bl (tf told a b)) = (ns.map fun b => D.bl (decide (b ∈ tlist ns told a))) ++ [.bl false] := by
  rw [List.map_append]
  congr 1
  · refine List.map_congr_left fun b hb => ?_
    have hne : b ≠ "#" := fun e => k.nh (e ▸ hb)
    unfold tf tlist
    by_cases e : a = "#" <;> simp [e, hne, hb]
  · have : tf told a "#" = false := by
      unfold tf
      by_cases e : a = "#"
      · simp [e]
      · have h : ("#" : Str) ∉ told a := fun z => k.nh (k.sub a (ha.resolve_right e) _ z)
        simp [e, h]
    simp [this]
end
end Pr
set_option Elab.async false
set_option linter.all false
set_option maxRecDepth 100000
set_option maxHeartbeats 4000000
/-! Wc: what is known of the slots. -/
namespace Dl
open PySem L2 Evl
inductive Cl where
  | v (d : D)
  | o (d : D)
  | x
/-- n slots; what is known of some; a, b, c: whether lists, dicts, objects of one's own may stand -/
structure Fx (n : Nat) (a b c : Bool) (l : List (Nat × Cl)) (ρ : En) : Prop where
  len : ρ.length = n
  val : ∀ i d, l.lookup i = some (.v d) → getV ρ i = some d
  own : ∀ i d, l.lookup i = some (.o d) → getO ρ i = some d
  oL : ownL ρ = true → a = true
  oD : ownD ρ = true → b = true
  oO : ownO ρ = true → c = true
theorem getV_set_ne {ρ : En} {i j : Nat} {s : Slot} (h : i ≠ j) : getV (ρ.set i s) j = getV ρ j := by unfold getV; rw [List.getElem?_set_ne h]
theorem getO_set_ne {ρ : En} {i j : Nat} {s : Slot} (h : i ≠ j) : getO (ρ.set i s) j = getO ρ j := by unfold getO; rw [List.getElem?_set_ne h]
theorem getV_set_eq {ρ : En} {i : Nat} {d : D} (h : i < ρ.length) : getV (ρ.set i (.val d)) i = some d := by unfold getV; rw [List.getElem?_set_self h]
theorem getO_set_eq {ρ : En} {i : Nat} {d : D} (h : i < ρ.length) : getO (ρ.set i (.own d)) i = some d := by unfold getO; rw [List.getElem?_set_self h]
theorem any_set {p : Slot → Bool} {s : Slot} (hs : p s = false) : ∀ {ρ : En} {i : Nat}, (ρ.set i s).any p = true → ρ.any p = true
  | [], _, h => by simp at h
  | x :: ρ, 0, h => by
    rw [List.set_cons_zero, List.any_cons, hs, Bool.false_or] at h
    rw [List.any_cons, h, Bool.or_true]
  | x :: ρ, i + 1, h => by
    rw [List.set_cons_succ, List.any_cons, Bool.or_eq_true] at h
    rw [List.any_cons, Bool.or_eq_true]
    exact h.imp id (any_set hs)
theorem look_cons {i j : Nat} {s : Cl} {l : List (Nat × Cl)} : List.lookup j ((i, s) :: l) = if j = i then some s else List.lookup j l := by
  rw [List.lookup_cons]
  by_cases e : j = i
  · rw [if_pos e, e]; simp
  · rw [if_neg e, beq_eq_false_iff_ne.mpr e]
def slL (s : Slot) : Bool := match s with | .own (.lst _) => true | _ => false
def slD (s : Slot) : Bool := match s with | .own (.dct _) => true | _ => false
def slO (s : Slot) : Bool := match s with | .own (.obj _ _) => true | _ => false
theorem look_map2 (f : Nat → Cl → Cl) (i : Nat) : ∀ l : List (Nat × Cl), (l.map fun p => (p.1, f p.1 p.2)).lookup i = (l.lookup i).map (f i)
  | [] => rfl
  | (j, s) :: l => by
    rw [List.map_cons, look_cons, look_cons, look_map2 f i l]
    by_cases e : i = j
    · rw [if_pos e, if_pos e, e]; rfl
    · rw [if_neg e, if_neg e]
section
variable {n : Nat} {a b c : Bool} {l : List (Nat × Cl)} {ρ : En}
theorem Fx.put (F : Fx n a b c l ρ) {i : Nat} {s : Slot} {t : Cl} (h1 : ∀ d, t = .v d → getV (ρ.set i s) i = some d) (h2 : ∀ d, t = .o d → getO (ρ.set i s) i = some d)
    (h3 : slL s = true → a = true) (h4 : slD s = true → b = true) (h5 : slO s = true → c = true) : Fx n a b c ((i, t) :: l) (ρ.set i s) := by
  have any : ∀ {p : Slot → Bool} {f : Bool}, (p s = true → f = true) → (ρ.any p = true → f = true) → (ρ.set i s).any p = true → f = true := fun {p f} q1 q2 q3 => by
    cases hp : p s with
    | true => exact q1 hp
    | false => exact q2 (any_set hp q3)
  refine ⟨by rw [List.length_set]; exact F.len, fun j d h => ?_, fun j d h => ?_, any h3 F.oL, any h4 F.oD, any h5 F.oO⟩
  · rw [look_cons] at h
    by_cases e : j = i
    · subst e; rw [if_pos rfl] at h; exact h1 d (Option.some.inj h)
    · rw [if_neg e] at h; rw [getV_set_ne (Ne.symm e)]; exact F.val j d h
  · rw [look_cons] at h
    by_cases e : j = i
    · subst e; rw [if_pos rfl] at h; exact h2 d (Option.some.inj h)
    · rw [if_neg e] at h; rw [getO_set_ne (Ne.symm e)]; exact F.own j d h
theorem Fx.set (F : Fx n a b c l ρ) (i : Nat) (d : D) (hi : i < n) : Fx n a b c ((i, .v d) :: l) (ρ.set i (.val d)) :=
  F.put (fun e h => by cases h; exact getV_set_eq (by rw [F.len]; exact hi)) (fun e h => by cases h) (fun h => by cases h) (fun h => by cases h) (fun h => by cases h)
theorem Fx.wipe (F : Fx n a b c l ρ) (i : Nat) : Fx n a b c ((i, .x) :: l) (ρ.set i .no) :=
  F.put (fun e h => by cases h) (fun e h => by cases h) (fun h => by cases h) (fun h => by cases h) (fun h => by cases h)
theorem Fx.setL (F : Fx n true b c l ρ) (i : Nat) (xs : List D) (hi : i < n) : Fx n true b c ((i, .o (.lst xs)) :: l) (ρ.set i (.own (.lst xs))) :=
  F.put (fun e h => by cases h) (fun e h => by cases h; exact getO_set_eq (by rw [F.len]; exact hi)) (fun h => rfl) (fun h => by cases h) (fun h => by cases h)
theorem Fx.setD (F : Fx n a true c l ρ) (i : Nat) (xs : List (Key × D)) (hi : i < n) : Fx n a true c ((i, .o (.dct xs)) :: l) (ρ.set i (.own (.dct xs))) :=
  F.put (fun e h => by cases h) (fun e h => by cases h; exact getO_set_eq (by rw [F.len]; exact hi)) (fun h => by cases h) (fun h => rfl) (fun h => by cases h)
theorem Fx.setO (F : Fx n a b true l ρ) (i k : Nat) (fs : List (Str × D)) (hi : i < n) : Fx n a b true ((i, .o (.obj k fs)) :: l) (ρ.set i (.own (.obj k fs))) :=
  F.put (fun e h => by cases h) (fun e h => by cases h; exact getO_set_eq (by rw [F.len]; exact hi)) (fun h => by cases h) (fun h => by cases h) (fun h => rfl)
/-- fewer things known, or others that follow -/
theorem Fx.sub (F : Fx n a b c l ρ) {l' : List (Nat × Cl)} (h : ∀ i s, l'.lookup i = some s → s = .x ∨ l.lookup i = some s) : Fx n a b c l' ρ :=
  ⟨F.len, fun i d q => (h i _ q).elim (fun z => by cases z) (F.val i d), fun i d q => (h i _ q).elim (fun z => by cases z) (F.own i d), F.oL, F.oD, F.oO⟩
theorem Fx.flags (F : Fx n a b c l ρ) {a' b' c' : Bool} (h1 : a = true → a' = true) (h2 : b = true → b' = true) (h3 : c = true → c' = true) : Fx n a' b' c' l ρ := ⟨F.len, F.val, F.own, fun h => h1 (F.oL h), fun h => h2 (F.oD h), fun h => h3 (F.oO h)⟩
def Cl.frz : Cl → Cl
  | .o d => .v d
  | s => s
theorem look_map (f : Cl → Cl) (i : Nat) : ∀ l : List (Nat × Cl), (l.map fun p => (p.1, f p.2)).lookup i = (l.lookup i).map f
  | [] => rfl
  | (j, s) :: l => by
    rw [List.map_cons, look_cons, look_cons, look_map f i l]
    by_cases e : i = j
    · rw [if_pos e, if_pos e]; rfl
    · rw [if_neg e, if_neg e]
theorem getV_frz {i : Nat} {d : D} (h : getV ρ i = some d) : getV (Dl.frz ρ) i = some d := by
  unfold getV at h ⊢
  rw [frz_get]
  cases e : ρ[i]? with
  | none => rw [e] at h; cases h
  | some s => rw [e] at h; cases s <;> first | (cases h; done) | skip; cases h; rfl
theorem getV_frzO {i : Nat} {d : D} (h : getO ρ i = some d) : getV (Dl.frz ρ) i = some d := by
  unfold getO at h
  unfold getV
  rw [frz_get]
  cases e : ρ[i]? with
  | none => rw [e] at h; cases h
  | some s => rw [e] at h; cases s <;> first | (cases h; done) | skip; cases h; rfl
theorem any_frz {p : Slot → Bool} (h : ∀ s, p (frz1 s) = false) : (Dl.frz ρ).any p = false := by
  unfold Dl.frz
  rw [List.any_map, List.any_eq_false]
  intro s _
  show ¬ p (frz1 s) = true
  rw [h]; simp
/-- frozen -/
theorem Fx.frz (F : Fx n a b c l ρ) : Fx n false false false (l.map fun p => (p.1, p.2.frz)) (Dl.frz ρ) where
  len := by unfold Dl.frz; rw [List.length_map]; exact F.len
  val := fun i d h => by
    rw [look_map] at h
    cases e : l.lookup i with
    | none => rw [e] at h; cases h
    | some s =>
      rw [e] at h
      cases s with
      | v d' => cases h; exact getV_frz (F.val i _ e)
      | o d' => cases h; exact getV_frzO (F.own i _ e)
      | x => cases h
  own := fun i d h => by
    rw [look_map] at h
    cases e : l.lookup i with
    | none => rw [e] at h; cases h
    | some s => rw [e] at h; cases s <;> cases h
  oL := fun h => by
    unfold ownL at h
    rw [any_frz (fun s => by cases s <;> rfl)] at h; cases h
  oD := fun h => by
    unfold ownD at h
    rw [any_frz (fun s => by cases s <;> rfl)] at h; cases h
  oO := fun h => by
    unfold ownO at h
    rw [any_frz (fun s => by cases s <;> rfl)] at h; cases h
theorem frzI_getV {is : List Nat} {i : Nat} {d : D} (h : getV ρ i = some d) : getV (frzI is ρ) i = some d := by
  unfold getV at h ⊢
  rw [frzI_get]
  cases e : ρ[i]? with
  | none => rw [e] at h; cases h
  | some s =>
    rw [e] at h
    cases s <;> first | (cases h; done) | skip
    cases h
    by_cases hj : i ∈ is <;> simp [hj, frz1]
theorem frzI_getO {is : List Nat} {i : Nat} {d : D} (h : getO ρ i = some d) : (i ∈ is → getV (frzI is ρ) i = some d) ∧ (i ∉ is → getO (frzI is ρ) i = some d) := by
  unfold getO at h
  unfold getV getO
  rw [frzI_get]
  cases e : ρ[i]? with
  | none => rw [e] at h; cases h
  | some s =>
    rw [e] at h
    cases s <;> first | (cases h; done) | skip
    cases h
    constructor <;> (intro hj; simp [hj, frz1])
theorem any_frzI {p : Slot → Bool} {is : List Nat} (h : ∀ s, p (frz1 s) = false) : ∀ {ρ : En}, (frzI is ρ).any p = true → ρ.any p = true := fun {ρ} q => by
  rw [List.any_eq_true] at q ⊢
  obtain ⟨s, hs, hp⟩ := q
  obtain ⟨j, hj⟩ := List.getElem?_of_mem hs
  rw [frzI_get] at hj
  cases e : ρ[j]? with
  | none => rw [e] at hj; cases hj
  | some s' =>
    rw [e] at hj
    simp only [Option.map_some, Option.some.injEq] at hj
    by_cases hi : j ∈ is
    · rw [if_pos hi] at hj; rw [← hj, h] at hp; cases hp
    · rw [if_neg hi] at hj
      exact ⟨s', List.mem_of_getElem? e, by rw [hj]; exact hp⟩
theorem Fx.frzI (F : Fx n a b c l ρ) (is : List Nat) : Fx n a b c (l.map fun p => (p.1, if p.1 ∈ is then p.2.frz else p.2)) (Dl.frzI is ρ) where
  len := by unfold Dl.frzI; rw [List.length_mapIdx]; exact F.len
  val := fun i d h => by
    have h : (l.lookup i).map (fun s => if i ∈ is then s.frz else s) = some (.v d) := by
      rw [← h, look_map2 (fun j s => if j ∈ is then s.frz else s)]
    cases e : l.lookup i with
    | none => rw [e] at h; cases h
    | some s =>
      rw [e] at h
      by_cases hi : i ∈ is
      · simp only [Option.map_some, hi, if_true] at h
        cases s with
        | v d' => cases h; exact frzI_getV (F.val i _ e)
        | o d' => cases h; exact (frzI_getO (F.own i _ e)).1 hi
        | x => cases h
      · simp only [Option.map_some, hi, if_false] at h
        cases h
        exact frzI_getV (F.val i _ e)
  own := fun i d h => by
    have h : (l.lookup i).map (fun s => if i ∈ is then s.frz else s) = some (.o d) := by
      rw [← h, look_map2 (fun j s => if j ∈ is then s.frz else s)]
    cases e : l.lookup i with
    | none => rw [e] at h; cases h
    | some s =>
      rw [e] at h
      by_cases hi : i ∈ is
      · simp only [Option.map_some, hi, if_true] at h
        cases s <;> cases h
      · simp only [Option.map_some, hi, if_false] at h
        cases h
        exact (frzI_getO (F.own i _ e)).2 hi
  oL := fun h => F.oL (any_frzI (fun s => by cases s <;> rfl) h)
  oD := fun h => F.oD (any_frzI (fun s => by cases s <;> rfl) h)
  oO := fun h => F.oO (any_frzI (fun s => by cases s <;> rfl) h)
/-- what is lent -/
theorem Fx.lendG (F : Fx n a b c l ρ) {f : DE} {u u' : U} {d : D} (h : f (Dl.frz ρ) u = .ok d u') (hk : noK a b c d = true) (mono : ∀ a b c a' b' c' : Bool, (a' = true → a = true) → (b' = true → b = true) → (c' = true → c = true) → noK a b c d = true → noK a' b' c' d = true) : Dl.lendG f ρ u = .ok d u' :=
  x_lendG_ok h (mono _ _ _ _ _ _ F.oL F.oD F.oO hk)
end
mutual
theorem noK_mono {a b c a' b' c' : Bool} (h1 : a' = true → a = true) (h2 : b' = true → b = true) (h3 : c' = true → c = true) : ∀ {d : D}, noK a b c d = true → noK a' b' c' d = true
  | .lst xs, h => by
    unfold noK at h ⊢
    rw [Bool.and_eq_true] at h ⊢
    exact ⟨by cases a' <;> simp_all, noKs_mono h1 h2 h3 h.2⟩
  | .tup xs, h => by unfold noK at h ⊢; exact noKs_mono h1 h2 h3 h
  | .dct kvs, h => by
    unfold noK at h ⊢
    rw [Bool.and_eq_true] at h ⊢
    exact ⟨by cases b' <;> simp_all, noKv_mono h1 h2 h3 h.2⟩
  | .obj _ fs, h => by
    unfold noK at h ⊢
    rw [Bool.and_eq_true] at h ⊢
    exact ⟨by cases c' <;> simp_all, noKf_mono h1 h2 h3 h.2⟩
  | .exc _ fs, h => by unfold noK at h ⊢; exact noKf_mono h1 h2 h3 h
  | .non, _ => by unfold noK; rfl
  | .bl _, _ => by unfold noK; rfl
  | .int _, _ => by unfold noK; rfl
  | .str _, _ => by unfold noK; rfl
  | .urn, _ => by unfold noK; rfl
theorem noKs_mono {a b c a' b' c' : Bool} (h1 : a' = true → a = true) (h2 : b' = true → b = true) (h3 : c' = true → c = true) : ∀ {ds : List D}, noKs a b c ds = true → noKs a' b' c' ds = true
  | [], _ => by unfold noKs; rfl
  | x :: xs, h => by
    unfold noKs at h ⊢
    rw [Bool.and_eq_true] at h ⊢
    exact ⟨noK_mono h1 h2 h3 h.1, noKs_mono h1 h2 h3 h.2⟩
theorem noKv_mono {a b c a' b' c' : Bool} (h1 : a' = true → a = true) (h2 : b' = true → b = true) (h3 : c' = true → c = true) : ∀ {ds : List (Key × D)}, noKv a b c ds = true → noKv a' b' c' ds = true
  | [], _ => by unfold noKv; rfl
  | (_, x) :: xs, h => by
    unfold noKv at h ⊢
    rw [Bool.and_eq_true] at h ⊢
    exact ⟨noK_mono h1 h2 h3 h.1, noKv_mono h1 h2 h3 h.2⟩
theorem noKf_mono {a b c a' b' c' : Bool} (h1 : a' = true → a = true) (h2 : b' = true → b = true) (h3 : c' = true → c = true) : ∀ {ds : List (Str × D)}, noKf a b c ds = true → noKf a' b' c' ds = true
  | [], _ => by unfold noKf; rfl
  | (_, x) :: xs, h => by
    unfold noKf at h ⊢
    rw [Bool.and_eq_true] at h ⊢
    exact ⟨noK_mono h1 h2 h3 h.1, noKf_mono h1 h2 h3 h.2⟩
end
theorem noKP_mono {a b c a' b' c' : Bool} {ρ : En} {d : D} (h1 : ownL ρ = true → a = true) (h2 : ownD ρ = true → b = true) (h3 : ownO ρ = true → c = true) (h : (match d with | .lst xs => noKs a b c xs | .dct kvs => noKs a b c (kvs.map (·.2)) | .obj _ fs => noKs a b c (fs.map (·.2)) | _ => false) = true) : noKP ρ d = true := by
  unfold noKP
  cases d <;> first | (cases h; done) | exact noKs_mono h1 h2 h3 h
/-! statements, with what is known -/
section
variable {n : Nat} {a b c : Bool} {l : List (Nat × Cl)} {P : SR → Prop} {k : DS} {ρ : En} {u u' : U} {d : D}
theorem f_lend (F : Fx n a b c l ρ) {f : DE} (h : f (frz ρ) u = .ok d u') (hk : noK a b c d = true) : lendG f ρ u = .ok d u' := x_lendG_ok h (noK_mono F.oL F.oD F.oO hk)
theorem f_set (F : Fx n a b c l ρ) {i : Nat} {f : DE} (d : D) (u' : U) (h : f ρ u = .ok d u') (h2 : ∀ ρ', Fx n a b c ((i, .v d) :: l) ρ' → okS P (k ρ' u')) (hi : i < n := by decide) : okS P (sSeq (sSet i f) k ρ u) :=
  w_set h rfl (h2 _ (F.set i d hi))
theorem f_set2 (F : Fx n a b c l ρ) {i j : Nat} {f : DE} (d e : D) (u' : U) (h : f ρ u = .ok (.tup [d, e]) u') (h2 : ∀ ρ', Fx n a b c ((j, .v e) :: (i, .v d) :: l) ρ' → okS P (k ρ' u')) (hi : i < n := by decide) (hj : j < n := by decide) : okS P (sSeq (sSetT (.tp [i, j]) f) k ρ u) :=
  w_setT h rfl (h2 _ ((F.set i d hi).set j e hj))
theorem f_setM2 (F : Fx n a b c l ρ) {i j : Nat} {f : DM} (d e : D) (u' : U) (h : f ρ u = .ok [.val d, .val e] u') (h2 : ∀ ρ', Fx n a b c ((j, .v e) :: (i, .v d) :: l) ρ' → okS P (k ρ' u')) (hi : i < n := by decide) (hj : j < n := by decide) : okS P (sSeq (sSetM [i, j] f) k ρ u) :=
  w_setM h rfl rfl (h2 _ ((F.set i d hi).set j e hj))
theorem f_setM2L (F : Fx n true b c l ρ) {i j : Nat} {f : DM} (xs ys : List D) (u' : U) (h : f ρ u = .ok [.own (.lst xs), .own (.lst ys)] u') (h2 : ∀ ρ', Fx n true b c ((j, .o (.lst ys)) :: (i, .o (.lst xs)) :: l) ρ' → okS P (k ρ' u')) (hi : i < n := by decide) (hj : j < n := by decide) : okS P (sSeq (sSetM [i, j] f) k ρ u) :=
  w_setM h rfl rfl (h2 _ ((F.setL i xs hi).setL j ys hj))
theorem f_setN (F : Fx n true b c l ρ) {i : Nat} {f : DE} (xs : List D) (u' : U) (h : f ρ u = .ok (.lst xs) u') (h2 : ∀ ρ', Fx n true b c ((i, .o (.lst xs)) :: l) ρ' → okS P (k ρ' u')) (hi : i < n := by decide) : okS P (sSeq (sSetN i f) k ρ u) :=
  w_setN h rfl rfl (h2 _ (F.setL i xs hi))
theorem f_setND (F : Fx n a true c l ρ) {i : Nat} {f : DE} (xs : List (Key × D)) (u' : U) (h : f ρ u = .ok (.dct xs) u') (h2 : ∀ ρ', Fx n a true c ((i, .o (.dct xs)) :: l) ρ' → okS P (k ρ' u')) (hi : i < n := by decide) : okS P (sSeq (sSetN i f) k ρ u) :=
  w_setN h rfl rfl (h2 _ (F.setD i xs hi))
/-- xs.append(e) -/
theorem f_app (F : Fx n true b c l ρ) {i : Nat} {f : DE} (xs : List D) (d : D) (u' : U) (h0 : l.lookup i = some (.o (.lst xs))) (h : f ρ u = .ok d u') (hs : xs.length ≤ 100000) (h2 : ∀ ρ', Fx n true b c ((i, .o (.lst (xs ++ [d]))) :: l) ρ' → okS P (k ρ' u')) (hi : i < n := by decide) : okS P (sSeq (sOm i oApp (dCons f dNil)) k ρ u) := by
  refine w_om (d := .non) (xs := xs) (xs' := xs ++ [d]) (as := [d]) (u' := u') (F.own i _ h0) (by simp [h]) ?_ rfl (h2 _ (F.setL i _ hi))
  show chk _ _ = _
  have hs : small xs.length = true := by unfold small; exact decide_eq_true hs
  rw [hs]; rfl
theorem f_pass (F : Fx n a b c l ρ) {t : DB} {f : DS} (u' : U) (h : ∀ ρ', Fx n false false false (l.map fun p => (p.1, p.2.frz)) ρ' → t ρ' u = .ok false u') (h2 : okS P (k ρ u')) : okS P (sSeq (sIf t f sNx) k ρ u) := w_pass (h _ F.frz) h2
theorem f_if (F : Fx n a b c l ρ) {t : DB} {f g : DS} (b' : Bool) (u' : U) (h : ∀ ρ', Fx n false false false (l.map fun p => (p.1, p.2.frz)) ρ' → t ρ' u = .ok b' u') (h2 : okS P ((if b' = true then f ρ u' else g ρ u').seq k)) : okS P (sSeq (sIf t f g) k ρ u) := w_if (h _ F.frz) h2
theorem f_ret (F : Fx n a b c l ρ) {f : DE} (d : D) (u' : U) (h : ∀ ρ', Fx n false false false (l.map fun p => (p.1, p.2.frz)) ρ' → f ρ' u = .ok d u') (h2 : P (.rt d u')) : okS P (sRet f ρ u) := w_ret (h _ F.frz) h2
/-- a comprehension over one name -/
theorem f_lc (F : Fx n a b c l ρ) {α : Type} (enc : α → D) (p : α → Bool) (g : α → D) (ys : List α) {fi : DI} {i : Nat} {t : DB} {e : DE} (h1 : fi ρ u = .ok (ys.map enc) u) (hs : ys.length ≤ 100000)
    (h : ∀ y ∈ ys, ∀ ρ1, Fx n a b c ((i, .v (enc y)) :: l) ρ1 → t ρ1 u = .ok (p y) u ∧ (p y = true → e ρ1 u = .ok (g y) u)) (hi : i < n := by decide) : dLc fi (.nm i) t e [i] ρ u = .ok (.lst ((ys.filter p).map g)) u :=
  dLc_ok enc p g ys h1 hs fun y hy => ⟨_, bindT_nm _ _ _, by
    have F1 : Fx n a b c ((i, .v (enc y)) :: l) ((wipeE ρ [i]).set i (.val (enc y))) := ((F.wipe i).set i (enc y) hi).sub fun j s h => by
      rw [look_cons] at h
      right
      rw [look_cons, look_cons]
      by_cases e : j = i
      · rw [if_pos e] at h ⊢; exact h
      · rw [if_neg e] at h; rw [if_neg e, if_neg e]; exact h
    exact h y hy _ F1⟩
theorem f_lcA (F : Fx n a b c l ρ) {α : Type} (enc : α → D) (g : α → D) (ys : List α) {fi : DI} {i : Nat} {e : DE} (h1 : fi ρ u = .ok (ys.map enc) u) (hs : ys.length ≤ 100000)
    (h : ∀ y ∈ ys, ∀ ρ1, Fx n a b c ((i, .v (enc y)) :: l) ρ1 → e ρ1 u = .ok (g y) u) (hi : i < n := by decide) : dLc fi (.nm i) dYes e [i] ρ u = .ok (.lst (ys.map g)) u := by
  have := f_lc F enc (fun _ => true) g ys (t := dYes) (e := e) h1 hs (fun y hy ρ1 F1 => ⟨rfl, fun _ => h y hy ρ1 F1⟩) hi
  rw [List.filter_eq_self.mpr fun _ _ => rfl] at this
  exact this
end
theorem fx_one {n : Nat} {d : D} {ρ : En} {a b c : Bool} (h1 : ρ.length = n) (h2 : getV ρ 0 = some d) (h3 : ownL ρ = false) (h4 : ownD ρ = false) (h5 : ownO ρ = false) : Fx n a b c [(0, .v d)] ρ := by
  refine ⟨h1, fun i e h => ?_, fun i e h => ?_, (fun h => by rw [h3] at h; cases h), (fun h => by rw [h4] at h; cases h), (fun h => by rw [h5] at h; cases h)⟩
  · rw [look_cons] at h
    by_cases z : i = 0
    · rw [if_pos z] at h; cases h; rw [z]; exact h2
    · rw [if_neg z] at h; cases h
  · rw [look_cons] at h
    by_cases z : i = 0
    · rw [if_pos z] at h; cases h
    · rw [if_neg z] at h; cases h
def pickL (l : List (Nat × Cl)) : List Nat → List (Nat × Cl)
  | [] => []
  | i :: is => match l.lookup i with
    | some s => (i, s) :: pickL l is
    | none => pickL l is
theorem pickL_look {l : List (Nat × Cl)} {i : Nat} {s : Cl} : ∀ {is : List Nat}, (pickL l is).lookup i = some s → l.lookup i = some s
  | [], h => by cases h
  | j :: is, h => by
    unfold pickL at h
    cases e : l.lookup j with
    | none => rw [e] at h; exact pickL_look h
    | some t =>
      rw [e] at h
      dsimp only at h
      rw [look_cons] at h
      by_cases z : i = j
      · rw [if_pos z] at h; rw [z, e]; exact h
      · rw [if_neg z] at h; exact pickL_look h
/-- of what is known, what is wanted -/
theorem Fx.pick {n : Nat} {a b c : Bool} {l l' : List (Nat × Cl)} {ρ : En} (F : Fx n a b c l ρ) (is : List Nat) (h : pickL l is = l') : Fx n a b c l' ρ := by
  subst h
  exact F.sub fun i s q => .inr (pickL_look q)
theorem x_neOwn (c : Nat) (tb : Ty → Bool) (m : DF) (f g : DE) (ρ : En) : dNeOwn c tb m f g ρ = bnd (f ρ) fun x => bnd (g ρ) fun y => if isOf c x = true ∧ (tyD y).any tb = true then bnd (m [x, y]) (fun r => opt (isNotB r)) else stuck := rfl
theorem x_inOwn (neg : Bool) (c : Nat) (m : DF) (f g : DE) (ρ : En) : dInOwn neg c m f g ρ = bnd (f ρ) fun x => bnd (g ρ) fun y => if isOf c y = true then bnd (m [y, x]) fun r => opt ((isB r).bind fun z => match z with | .bl b => some (.bl (xor neg b)) | _ => none) else stuck := rfl
end Dl
set_option Elab.async false
set_option linter.all false
set_option maxRecDepth 100000
set_option maxHeartbeats 4000000
/-! Lg: _law_right. -/
namespace Dl
open PySem L2 Evl
theorem run_true {n : Nat} {f : DS} {ds : List D} {u : U} {d : D} (h : okS (fun r => ∃ u', endB r = .ok d u') (f (ρ0 n ds) u)) : ∃ u', runB n f ds u = .ok d u' := h
end Dl
namespace Pr
open PySem L2 Evl Dl
theorem noK_keys (ns : List Str) (told : Str → List Str) : noK true false false (keysD ns told) = true := by
  have h : ∀ l : List Str, noKv true false false (dctD l fun n => .tup (sD (told n))) = true := by
    intro l
    induction l with
    | nil => unfold dctD; rw [List.map_nil]; unfold noKv; rfl
    | cons n l ih =>
      show noKv true false false ((Sum.inr n, .tup (sD (told n))) :: dctD l fun n => .tup (sD (told n))) = true
      unfold noKv noK
      rw [ih, noKs_sD]; rfl
  unfold keysD keysF noK noKf noKf noKf noK
  rw [noKs_sD, h ns]; rfl
theorem str_q : PyData.strOk ("q" : Str) = true := by decide +kernel
/-- the Keys with one name more -/
theorem wide_spec {W : List Str} {tl : List (Str × Str)} {bt : Bool} {st : Int} {u : U} (hW : okN W) (hl : W.length ≤ 5) (hst : ∀ p ∈ tl, p.1 ∈ W ∧ p.2 ∈ W ∧ stR st p.1 p.2) (hn : ("#" : Str) ∉ W) (htl : tl.length ≤ 10) :
    i_Keys_D_initD_ [.tup (sD W), seqD bt (tl.map tpD)] u = .ok (keysF (sset W) (clo (dmOf tl))) u := by
  have hm : ∀ x, x ∈ sset W ↔ x ∈ W := fun x => mem_sset
  have hlen := sset_len W
  have hB : ∀ m, m ≤ 5 → 10 + 10 * m < 64 := by decide
  have hB := hB (sset W).length (by omega)
  have hC : ∀ x ∈ sset W, (dmOf tl x).length ≤ 10 := fun x _ => Nat.le_trans (dmOf_len tl x) htl
  obtain ⟨ko, _⟩ := ko_of (ns := sset W) (tl := tl) (stR st) (stR_trans st) (stR_irr st) (fun p hp => (hst p hp).2.2) (okN_sub hW fun x hx => (hm x).mp hx) (sset_sset W) (by omega) (fun p hp => ⟨(hm _).mpr (hst p hp).1, (hm _).mpr (hst p hp).2.1⟩) (fun h => hn ((hm _).mp h)) hC hB
  have e := init_spec (bn := true) (bt := bt) (bp := true) (nms := W) (tl := tl) (C := 10) (u := u) hW (fun p hp => ⟨hW _ (hst p hp).1, hW _ (hst p hp).2.1⟩) (fun p hp => ⟨(hst p hp).1, (hst p hp).2.1⟩) (by omega) hC hB (by omega)
  rw [ring_none ko, if_pos rfl] at e
  exact e
/-- what a book is, all that follows -/
structure BkF (ns : List Str) (tl : List (Str × Str)) (told : Str → List Str) (st : Int) : Prop where
  bk : BookOk ns tl
  hst : ∀ p ∈ tl, p.1 ∈ ns ∧ p.2 ∈ ns ∧ stR st p.1 p.2
  ko : KO ns told
  ht : told = clo (dmOf tl)
  hr : ∀ x ∈ ns, ∀ y, y ∈ told x ↔ Rch (dmOf tl) (dmOf tl x) y
  nq : ("q" : Str) ∉ ns
theorem bkf {ns : List Str} {tl : List (Str × Str)} (bk : BookOk ns tl) : ∃ st, BkF ns tl (clo (dmOf tl)) st := by
  have hns : okN ns := fun x hx => by
    have : ∀ n ∈ pool7, PyData.strOk n = true := by decide +kernel
    exact this x (bk.ok x hx)
  have hl5 := bk.len
  obtain ⟨st, hst⟩ := bk.pr
  have hv : ∀ p ∈ tl, p.1 ∈ ns ∧ p.2 ∈ ns := fun p hp => ⟨(hst p hp).1, (hst p hp).2.1⟩
  have hB : ∀ m, m ≤ 5 → 10 + 10 * m < 64 := by decide
  have hB := hB ns.length hl5
  have hC : ∀ x ∈ ns, (dmOf tl x).length ≤ 10 := fun x _ => Nat.le_trans (dmOf_len tl x) bk.tln
  have hnh : ("#" : Str) ∉ ns := fun h => by
    have := bk.ok _ h
    revert this
    decide +kernel
  have hnq : ("q" : Str) ∉ ns := fun h => by
    have := bk.ok _ h
    revert this
    decide +kernel
  obtain ⟨ko, hrch⟩ := ko_of (stR st) (stR_trans st) (stR_irr st) (fun p hp => (hst p hp).2.2) hns bk.srt (by omega) hv hnh hC hB
  exact ⟨st, bk, hst, ko, rfl, hrch, hnq⟩
section
variable {ns : List Str} {tl : List (Str × Str)} {told : Str → List Str} {st : Int} {u : U} {a b c : Bool} {l : List (Nat × Cl)} {ρ : En}
theorem BkF.made (B : BkF ns tl told st) {nms : List Str} {tl2 : List (Str × Str)} {bn bt bp : Bool} {u : U} (h1 : sset nms = ns) (h2 : nms.length < 64) (h3 : tl2.Perm tl) : i_Keys_D_initD_ [seqD bn (sD nms), seqD bt (tl2.map (prB bp))] u = .ok (keysF ns told) u := by
  have ko := B.ko
  rw [B.ht] at ko ⊢
  exact keys_made ko B.bk.len B.bk.tln (fun p hp => ⟨(B.hst p hp).1, (B.hst p hp).2.1⟩) h1 h2 h3
theorem lenT (ns : List Str) : oLen [.tup (sD ns)] = some (.int (ns.length : Nat)) := by show some (D.int ((sD ns).length : Nat)) = _; unfold sD; rw [List.length_map]
/-- what the Keys answer -/
def G1 (ns : List Str) (told : Str → List Str) : D := .lst [.tup (sD ns), .tup ((pairsOf ns told).map tpD), .int (ns.length : Nat), .lst (ns.map fun x => .tup (sD (told x))), .tup (sD ns)]
theorem G1_ok (kg : KG ns told) (h5 : ns.length ≤ 5) : plb (G1 ns told) = true ∧ wid (G1 ns told) = true ∧ dep (G1 ns told) < 6 := by
  have hpl := pairs_len kg h5
  refine ⟨?_, ?_, ?_⟩
  · have h1 := plb_sD kg.ok
    have h2 := plbs_of (plns_pr kg.prs)
    have h3 : plbs (ns.map fun x => .tup (sD (told x))) = true := plbs_map fun x hx => by unfold plb; exact plb_sD (kg.okt hx)
    unfold G1
    simp [plb, plbs, h1, h2, h3]
  · have h1 := wids_sD ns
    have h2 := wids_pr (pairsOf ns told)
    have h3 : wids (ns.map fun x => .tup (sD (told x))) = true := wids_map fun x hx => by
      unfold wid
      rw [wids_sD]
      have := kg.lent hx
      unfold sD; rw [List.length_map]
      simp; omega
    unfold G1
    simp [wid, wids, h1, h2, h3]
    omega
  · have h1 := deps_sD ns
    have h2 := deps_pr (pairsOf ns told)
    have h3 : deps (ns.map fun x => .tup (sD (told x))) ≤ 1 := deps_map fun x hx => by unfold dep; rw [deps_sD]; exact Nat.le_refl _
    unfold G1
    simp only [dep, deps, h1]
    omega
theorem got1 (B : BkF ns tl told st) (F : Fx 16 a b c l ρ) (h3 : l.lookup 3 = some (.v (.tup (sD ns)))) (h7 : l.lookup 7 = some (.v (keysD ns told))) :
    dLst (dCons (dProp 4 m_Keys_names (dVar 7)) (dCons (dProp 4 m_Keys_pairs (dVar 7)) (dCons (dLenOwn 4 m_Keys_D_lenD_ (dVar 7)) (dCons (dLc (dItems (dVar 3)) (.nm 8) dYes (dMeth 4 "told" m_Keys_told [] (dVar 7) (dKw [0] dNil (dCons (dVar 8) dNil))) [8]) (dCons (dMeth 4 "told" m_Keys_told [] (dVar 7) (dCons (dC (.str "#")) dNil)) dNil))))) ρ u = .ok (G1 ns told) u := by
  have kg := B.ko.toKG
  have g3 := F.val 3 _ h3
  have g7 := F.val 7 _ h7
  have hna := prop_keys (names_spec (ns := ns) (told := told) (u := u))
  have hpr := prop_keys (pairs_spec (u := u) kg)
  have hln := len_spec (ns := ns) (told := told) (u := u)
  have hth := told_hash (u := u) kg
  have s5 : small 5 = true := rfl
  have hL := f_lcA (u := u) F D.str (fun x => .tup (sD (told x))) ns (fi := dItems (dVar 3)) (i := 8) (e := dMeth 4 "told" m_Keys_told [] (dVar 7) (dKw [0] dNil (dCons (dVar 8) dNil))) (by simp [x_items, g3, itemsD]) (by have := B.bk.len; omega) fun x hx ρ1 F1 => by
    have ht := told_spec (u := u) kg hx
    have f8 := F1.val 8 _ rfl
    have f7 := F1.val 7 _ h7
    simp [f7, f8, x_meth, ob_told, x_kw, prm, ht]
  have hlen := lenOwn_ok (c := 4) (m := m_Keys_D_lenD_) (f := dVar 7) (ρ := ρ) (u := u) (by rw [x_var, g7]; rfl) (isO ns told) hln (by have := B.bk.len; omega)
  simp [g7, x_prop, hna, hpr, hlen, hL, x_meth, ob_told, hth, s5, G1]
theorem goal1 (B : BkF ns tl told st) (F : Fx 16 a b c l ρ) (h3 : l.lookup 3 = some (.v (.tup (sD ns)))) (h4 : l.lookup 4 = some (.v (toldD ns told))) (h6 : l.lookup 6 = some (.v (goalD ns told))) :
    dLst (dCons (dVar 3) (dCons (dCall oTuple (dCons (dVar 6) dNil)) (dCons (dCall oLen (dCons (dVar 3) dNil)) (dCons (dLc (dItems (dVar 3)) (.nm 8) dYes (dCall oTuple (dCons (dOp oIx (dVar 4) (dVar 8)) dNil)) [8]) (dCons (dVar 3) dNil))))) ρ u = .ok (G1 ns told) u := by
  have g3 := F.val 3 _ h3
  have g6 := F.val 6 _ h6
  have s5 : small 5 = true := rfl
  have hT := lenT ns
  have hL := f_lcA (u := u) F D.str (fun x => .tup (sD (told x))) ns (fi := dItems (dVar 3)) (i := 8) (e := dCall oTuple (dCons (dOp oIx (dVar 4) (dVar 8)) dNil)) (by simp [x_items, g3, itemsD]) (by have := B.bk.len; omega) fun x hx ρ1 F1 => by
    have hix := ix_toldD (told := told) hx
    have f8 := F1.val 8 _ rfl
    have f4 := F1.val 4 _ h4
    simp [f4, f8, hix, oTuple]
  simp [g3, g6, goalD, oTuple, hT, hL, s5, G1]
/-- the names and the number sign -/
theorem hash_it (F : Fx 16 a b c l ρ) (h5 : ns.length ≤ 5) (h3 : l.lookup 3 = some (.v (.tup (sD ns)))) : dItems (dOp oAdd (dCall oList (dCons (dVar 3) dNil)) (dLst (dCons (dC (.str "#")) dNil))) ρ u = .ok ((ns ++ [("#" : Str)]).map D.str) u := by
  have g3 := F.val 3 _ h3
  have s1 : small 1 = true := rfl
  have had : oAdd (.lst (sD ns)) (.lst [.str "#"]) = some (.lst ((ns ++ [("#" : Str)]).map D.str)) := by
    rw [add_lst (by unfold sD; rw [List.length_map]; simp; omega), List.map_append]; rfl
  simp [x_items, g3, oList, s1, had, itemsD, -List.map_append]
def G2 (ns : List Str) (told : Str → List Str) (x : Str) : D := .lst ((ns ++ [("#" : Str)]).map fun y => .bl (tf told x y))
theorem G2_ok (h5 : ns.length ≤ 5) (x : Str) : plb (G2 ns told x) = true ∧ wid (G2 ns told x) = true ∧ dep (G2 ns told x) < 6 := by
  unfold G2
  refine ⟨?_, ?_, ?_⟩
  · unfold plb; exact plbs_map fun _ _ => rfl
  · unfold wid
    rw [wids_map fun _ _ => rfl, List.length_map, List.length_append]
    simp; omega
  · have : deps ((ns ++ [("#" : Str)]).map fun y => D.bl (tf told x y)) ≤ 0 := deps_map fun _ _ => Nat.le_refl _
    unfold dep; omega
end
end Pr
set_option Elab.async false
set_option linter.all false
set_option maxRecDepth 100000
set_option maxHeartbeats 4000000
/-! Lh: _law_right. -/
namespace Pr
open PySem L2 Evl Dl
section
variable {ns : List Str} {tl : List (Str × Str)} {told : Str → List Str} {st : Int} {u : U} {a b c : Bool} {l : List (Nat × Cl)} {ρ : En}
theorem KG.of_sub (kg : KG ns told) : KG ns fun _ => [] := ⟨kg.ok, kg.nd, kg.len, (fun _ _ _ h => by cases h), fun _ _ => List.nodup_nil, kg.nh⟩
theorem clo_nil (x : Str) : clo (dmOf []) x = [] := rfl
/-- Keys of the names alone -/
theorem BkF.plain (B : BkF ns tl told st) : i_Keys_D_initD_ [.tup (sD ns), .tup []] u = .ok (keysF ns fun _ => []) u := by
  have kg := B.ko.toKG
  have := wide_spec (bt := true) (u := u) (tl := []) (st := 1) kg.ok B.bk.len (by intro p h; cases h) kg.nh (by decide)
  rw [B.bk.srt] at this
  exact this
def wideNs (ns : List Str) : List Str := if ns.length = 5 then ns.drop 1 ++ [("q" : Str)] else ns ++ [("q" : Str)]
theorem wide_ok (B : BkF ns tl told st) : okN (wideNs ns) ∧ (wideNs ns).length ≤ 5 ∧ ("#" : Str) ∉ wideNs ns ∧ ("q" : Str) ∈ wideNs ns := by
  have kg := B.ko.toKG
  have hl := B.bk.len
  have hq : ("#" : Str) ≠ "q" := by decide +kernel
  unfold wideNs
  by_cases h : ns.length = 5
  · rw [if_pos h]
    refine ⟨fun x hx => ?_, by rw [List.length_append, List.length_drop]; simp; omega, fun hx => ?_, by simp⟩
    · rcases List.mem_append.mp hx with hx | hx
      · exact kg.ok x (List.mem_of_mem_drop hx)
      · rw [List.mem_singleton.mp hx]; exact str_q
    · rcases List.mem_append.mp hx with hx | hx
      · exact kg.nh (List.mem_of_mem_drop hx)
      · exact hq (List.mem_singleton.mp hx)
  · rw [if_neg h]
    refine ⟨fun x hx => ?_, by rw [List.length_append]; simp; omega, fun hx => ?_, by simp⟩
    · rcases List.mem_append.mp hx with hx | hx
      · exact kg.ok x hx
      · rw [List.mem_singleton.mp hx]; exact str_q
    · rcases List.mem_append.mp hx with hx | hx
      · exact kg.nh hx
      · exact hq (List.mem_singleton.mp hx)
theorem wide1 (B : BkF ns tl told st) (F : Fx 16 a b c l ρ) (h2 : l.lookup 2 = some (.v (bkD ns tl))) (h3 : l.lookup 3 = some (.v (.tup (sD ns)))) :
    ∃ wt, dIf (dTst (dOp oEq (dCall oLen (dCons (dVar 3) dNil)) (dC (.int 5)))) (dMake 4 i_Keys_D_initD_ [.tup []] (dCons (dOp oAdd (dSl (dVar 3) (dPart (dC (.int 1))) dNoPart) (dTup (dCons (dC (.str "q")) dNil))) dNil)) (dMake 4 i_Keys_D_initD_ [] (dCons (dOp oAdd (dVar 3) (dTup (dCons (dC (.str "q")) dNil))) (dCons (dOp oIx (dVar 2) (dC (.int 1))) dNil))) ρ u = .ok (keysD (sset (wideNs ns)) wt) u := by
  have g2 := F.val 2 _ h2
  have g3 := F.val 3 _ h3
  have hT := lenT ns
  have hl := B.bk.len
  have s1 : small 1 = true := rfl
  have i1 : oIx (bkD ns tl) (.int 1) = some (.tup (tl.map tpD)) := rfl
  obtain ⟨w1, w2, w3, w4⟩ := wide_ok B
  by_cases h5 : ns.length = 5
  · refine ⟨clo (dmOf []), ?_⟩
    have hk := wide_spec (bt := true) (u := u) (tl := []) (st := 1) w1 w2 (by intro p h; cases h) w3 (by decide)
    have hk : i_Keys_D_initD_ [.tup (sD (wideNs ns)), .tup []] u = .ok (keysF (sset (wideNs ns)) (clo (dmOf []))) u := hk
    have hw : wideNs ns = ns.drop 1 ++ [("q" : Str)] := by unfold wideNs; rw [if_pos h5]
    have hc : oSl (.tup (sD ns)) (some 1) none = some (.tup (sD (ns.drop 1))) := by
      show some (D.tup (cutD (sD ns) (some 1) none)) = _
      rw [show (1 : Int) = ((1 : Nat) : Int) from rfl, cutD_from ns 1 (by omega)]
    have had : oAdd (.tup (sD (ns.drop 1))) (.tup [.str "q"]) = some (.tup (sD (wideNs ns))) := by
      rw [add_tup (by unfold sD; rw [List.length_map, List.length_drop]; simp; omega), hw]
      unfold sD; rw [List.map_append]; rfl
    have he := eq_int 5 5
    obtain ⟨dn, hdn⟩ : ∃ dn, dn = ns.drop 1 := ⟨_, rfl⟩
    rw [← hdn] at hc had
    have hsl : dSl (dVar 3) (dPart (dC (.int 1))) dNoPart ρ u = .ok (.tup (sD dn)) u := by
      unfold dSl dPart dNoPart
      simp [g3, hc]
    simp [x_tst, g3, hT, he, h5, hsl, s1, had, x_make, hk]
    rfl
  · refine ⟨clo (dmOf tl), ?_⟩
    have hw : wideNs ns = ns ++ [("q" : Str)] := by unfold wideNs; rw [if_neg h5]
    have hk := wide_spec (bt := true) (u := u) (tl := tl) (st := st) w1 w2 (fun p hp => ⟨by rw [hw]; exact List.mem_append_left _ (B.hst p hp).1, by rw [hw]; exact List.mem_append_left _ (B.hst p hp).2.1, (B.hst p hp).2.2⟩) w3 B.bk.tln
    have hk : i_Keys_D_initD_ [.tup (sD (wideNs ns)), .tup (tl.map tpD)] u = .ok (keysF (sset (wideNs ns)) (clo (dmOf tl))) u := hk
    have had : oAdd (.tup (sD ns)) (.tup [.str "q"]) = some (.tup (sD (wideNs ns))) := by
      rw [add_tup (by unfold sD; rw [List.length_map]; simp; omega), hw]
      unfold sD; rw [List.map_append]; rfl
    have he := eq_int (ns.length : Int) 5
    have h5' : ¬ ((ns.length : Int) = 5) := by omega
    simp [x_tst, g3, g2, i1, hT, he, h5', s1, had, x_make, hk]
    rfl
theorem all_nil (ns : List Str) (told : Str → List Str) : (ns.all fun x => decide (([] : List Str) = told x)) = decide (pairsOf ns told = []) := by
  rw [Bool.eq_iff_iff, List.all_eq_true, decide_eq_true_iff]
  constructor
  · intro h
    unfold pairsOf
    rw [List.flatMap_eq_nil_iff]
    intro x hx
    have := of_decide_eq_true (h x hx)
    rw [← this]; rfl
  · intro h x hx
    unfold pairsOf at h
    rw [List.flatMap_eq_nil_iff] at h
    have := h x hx
    exact decide_eq_true (List.map_eq_nil_iff.mp this).symm
theorem goal_nil (kg : KG ns told) (h5 : ns.length ≤ 5) : oEq (goalD ns told) (.lst []) = some (.bl (decide (pairsOf ns told = []))) := by
  have hd := deps_pr (pairsOf ns told)
  unfold goalD
  rw [oEq_ok (by unfold pln; exact plns_pr kg.prs) rfl (by unfold dep; omega) (by show 1 ≤ 64; decide)]
  simp
def fiveN : List Str := ["a", "city", "q", "#", "b"]
end
theorem right_true (u : U) (ha : 0 ≤ u.a) (hb : 0 ≤ u.b) (hb2 : u.b < 2 ^ 62) (hc : u.c = 0) : ∃ u', m__law_right [.urn] u = .ok (.bl true) u' := by
  have g : GU 600 u := ⟨ha, hb, hb2, by omega, by omega⟩
  have F : Fx 16 true false false [(0, .v .urn)] (ρ0 16 [.urn]) := fx_one rfl rfl rfl rfl rfl
  unfold m__law_right b__law_right
  refine run_true ?_
  refine f_pass F u (fun ρ' F' => ?_) ?_
  · have hby := by_hand_true u
    simp [hby, tru_bl]
  refine w_for (u' := u) (fun i : Nat => D.int (0 + (i : Int))) (fun i ρ u => Fx 16 true false false [(0, .v .urn)] ρ ∧ GU ((10 - i) * 60) u) (ys := List.range 10) ?_ ⟨F, g⟩ ?_ ?_
  · have := o_rng (n := 10) (by decide)
    simp [dRng1]
    exact congrArg (fun o => opt o u) this
  · rintro i y ρ u hy ⟨F, g⟩
    have hi : i < 10 := by
      have := (List.getElem?_eq_some_iff.mp hy).1
      simpa using this
    refine ⟨_, bindT_nm _ _ _, ?_⟩
    have F := (F.set 1 (.int (0 + (y : Int))) (by decide)).pick [0] rfl
    obtain ⟨m, hm⟩ : ∃ m, m = (10 - (i + 1)) * 60 := ⟨_, rfl⟩
    have g : GU (m + 60) u := by rw [hm]; exact g.le (by omega)
    rw [← hm]
    generalize ρ.set 1 (.val (.int (0 + (y : Int)))) = ρ at F ⊢
    -- the book
    obtain ⟨ns, tl, u1, e1, g1, bk⟩ := book_spec (n := m + 30) (g.le (by omega))
    obtain ⟨st, B⟩ := bkf bk
    obtain ⟨told, htold⟩ : ∃ told, told = clo (dmOf tl) := ⟨_, rfl⟩
    rw [← htold] at B
    have kg := B.ko.toKG
    have hl5 := bk.len
    have hl10 := bk.tln
    have hpl := pairs_len kg hl5
    have i0 : oIx (bkD ns tl) (.int 0) = some (.tup (sD ns)) := rfl
    have i1 : oIx (bkD ns tl) (.int 1) = some (.tup (tl.map tpD)) := rfl
    have sm2 : small 2 = true := rfl
    have hk : D.obj 4 (keysF ns told) = keysD ns told := rfl
    have e1' : m__law_book [.urn, .int 5] u = .ok (bkD ns tl) u1 := e1
    refine f_set F (bkD ns tl) u1 (by have g0 := F.val 0 _ rfl; simp [g0, e1']) fun ρ F => ?_
    refine f_set2 F (.tup (sD ns)) (toldD ns told) u1 (by
      have g2 := F.val 2 _ rfl
      have ht := law_told_spec (u := u1) B.ko bk B.hr
      simp [g2, i0, ht, sm2]) fun ρ F => ?_
    -- the pool
    obtain ⟨fs, u2, e2, hfs, g2⟩ := few_spec (ns := ns) (n := m + 25) (u := u1) (by omega) (g1.le (by omega))
    have hfl : fs.length ≤ 5 := Nat.le_trans hfs.length_le hl5
    obtain ⟨zs, u3, e3, p3, g3⟩ := mixed_spec (b := false) (xs := sD (ns ++ fs)) (n := m + 15) (u := u2) (by unfold sD; rw [List.length_map, List.length_append]; omega) (g2.le (by unfold sD; rw [List.length_map, List.length_append]; omega))
    obtain ⟨qs, rfl, pq⟩ := perm_sD p3
    have hqs : sset qs = ns := by
      rw [sset_ext (b := ns) fun x => ?_, bk.srt]
      rw [pq.mem_iff, List.mem_append]
      exact ⟨fun h => h.elim id fun h => hfs.subset h, .inl⟩
    have hql : qs.length < 64 := by rw [pq.length_eq, List.length_append]; omega
    have e3' : m__law_mixed [.urn, .lst (sD (ns ++ fs))] u2 = .ok (.tup (sD qs)) u3 := e3
    refine f_setM2 F (.tup (sD qs)) (.lst []) u3 (by
      have had : oAdd (.lst (sD ns)) (.lst (sD fs)) = some (.lst (sD (ns ++ fs))) := by
        rw [add_lst (by unfold sD; rw [List.length_map, List.length_map]; omega)]
        unfold sD; rw [List.map_append]
      have s0 : small 0 = true := rfl
      have q0 := F.val 0 _ rfl
      have q3 := F.val 3 _ rfl
      simp [mVal, mNil, q0, q3, oList, e2, had, e3', s0, -List.map_append]) fun ρ F => ?_
    -- the Keys
    obtain ⟨zs4, u4, e4, p4, g4⟩ := mixed_spec (b := true) (xs := tl.map tpD) (n := m) (u := u3) (by rw [List.length_map]; omega) (g3.le (by rw [List.length_map]; omega))
    obtain ⟨tl2, rfl, ptl⟩ := perm_map tpD unP (fun _ => rfl) p4
    have e4' : m__law_mixed [.urn, .tup (tl.map tpD)] u3 = .ok (.tup (tl2.map tpD)) u4 := e4
    have hkr : i_Keys_D_initD_ [.tup (sD qs), .tup (tl2.map tpD)] u4 = .ok (keysF ns told) u4 := B.made (bn := true) (bt := true) (bp := true) (u := u4) hqs hql ptl
    refine f_set F (keysD ns told) u4 (by
      have q0 := F.val 0 _ rfl
      have q2 := F.val 2 _ rfl
      have q5 := F.val 5 _ rfl
      simp [q0, q2, q5, x_make, i1, e4', hkr, hk]) fun ρ F => ?_
    -- the goal
    refine w_for (u' := u4) D.str (fun i ρ u => u4 = u ∧ Fx 16 true false false [(6, .v (.lst (((ns.take i).flatMap fun a => (told a).map fun b => (a, b)).map tpD))), (7, .v (keysD ns told)), (4, .v (toldD ns told)), (3, .v (.tup (sD ns))), (2, .v (bkD ns tl)), (0, .v .urn)] ρ) (ys := ns) (by have q3 := F.val 3 _ rfl; simp [x_items, q3, itemsD]) ⟨rfl, F.pick [6, 7, 4, 3, 2, 0] rfl⟩ ?_ ?_
    · rintro j x ρ _ hx ⟨rfl, F⟩
      have hxn : x ∈ ns := List.mem_of_getElem? hx
      have hix := ix_toldD (told := told) hxn
      have hlx := kg.lent hxn
      have htk : ((ns.take j).flatMap fun a => (told a).map fun b => (a, b)).length ≤ 5 * (ns.take j).length := flatMap_len _ fun y hy => by
        rw [List.length_map]
        exact Nat.le_trans (nodup_len (kg.tnd y (List.mem_of_mem_take hy)) fun z hz => kg.sub y (List.mem_of_mem_take hy) z hz) hl5
      have htl : (ns.take j).length ≤ 5 := Nat.le_trans (by rw [List.length_take]; exact Nat.min_le_right _ _) hl5
      refine ⟨_, bindT_nm _ _ _, ?_⟩
      have F := F.set 8 (.str x) (by decide)
      generalize ρ.set 8 (.val (.str x)) = ρ at F ⊢
      refine w_last (f_set F (.lst (((ns.take (j + 1)).flatMap fun a => (told a).map fun b => (a, b)).map tpD)) u4 ?_ fun ρ F => w_nx ⟨_, _, rfl, rfl, F.pick [6, 7, 4, 3, 2, 0] rfl⟩)
      have q6 := F.val 6 _ rfl
      have q4 := F.val 4 _ rfl
      have q8 := F.val 8 _ rfl
      have hL := f_lcA (u := u4) F D.str (fun b => tpD (x, b)) (told x) (fi := dItems (dOp oIx (dVar 4) (dVar 8))) (i := 15) (e := dTup (dCons (dVar 8) (dCons (dVar 15) dNil))) (by simp [x_items, q4, q8, hix, itemsD]) (by omega) fun b hb ρ1 F1 => by
        have r8 := F1.val 8 _ rfl
        have r15 := F1.val 15 _ rfl
        simp [r8, r15, sm2, tpD]
      have had : oAdd (.lst (((ns.take j).flatMap fun a => (told a).map fun b => (a, b)).map tpD)) (.lst ((told x).map fun b => tpD (x, b))) = some (.lst (((ns.take (j + 1)).flatMap fun a => (told a).map fun b => (a, b)).map tpD)) := by
        rw [add_lst (by rw [List.length_map, List.length_map]; omega), flatMap_take _ hx, List.map_append, List.map_map]
        rfl
      rw [x_op]
      simp only [x_bnd, x_var, q6, x_opt1, hL, had]
    rintro ρ _ ⟨rfl, F⟩
    rw [List.take_length] at F
    have F : Fx 16 true false false [(6, .v (goalD ns told)), (7, .v (keysD ns told)), (4, .v (toldD ns told)), (3, .v (.tup (sD ns))), (2, .v (bkD ns tl)), (0, .v .urn)] ρ := F
    obtain ⟨ga1, ga2, ga3⟩ := G1_ok kg hl5
    refine f_set F (G1 ns told) u4 (got1 B F rfl rfl) fun ρ F => ?_
    refine f_pass F u4 (fun ρ F => same_c (d := G1 ns told) (by have q9 := F.val 9 _ rfl; rw [x_var, q9]; rfl) (goal1 B F rfl rfl rfl) ga1 ga2 ga3) ?_
    -- who tells whom
    refine w_for (u' := u4) D.str (fun i ρ u => u4 = u ∧ Fx 16 true false false [(6, .v (goalD ns told)), (7, .v (keysD ns told)), (4, .v (toldD ns told)), (3, .v (.tup (sD ns))), (2, .v (bkD ns tl)), (0, .v .urn)] ρ) (ys := ns ++ [("#" : Str)]) (hash_it F hl5 rfl) ⟨rfl, F.pick [6, 7, 4, 3, 2, 0] rfl⟩ ?_ ?_
    · rintro j x ρ _ hx ⟨rfl, F⟩
      have hxn : x ∈ ns ∨ x = "#" := by
        rcases List.mem_append.mp (List.mem_of_getElem? hx) with h | h
        · exact .inl h
        · exact .inr (List.mem_singleton.mp h)
      refine ⟨_, bindT_nm _ _ _, ?_⟩
      have F := F.set 8 (.str x) (by decide)
      generalize ρ.set 8 (.val (.str x)) = ρ at F ⊢
      obtain ⟨gb1, gb2, gb3⟩ := G2_ok (told := told) hl5 x
      refine f_set F (G2 ns told x) u4 ?_ fun ρ F => w_last (f_pass F u4 (fun ρ F => same_c (d := G2 ns told x) (by have q9 := F.val 9 _ rfl; rw [x_var, q9]; rfl) ?_ gb1 gb2 gb3) (w_nx ⟨_, _, rfl, rfl, F.pick [6, 7, 4, 3, 2, 0] rfl⟩))
      · refine f_lcA (u := u4) F D.str (fun y => .bl (tf told x y)) (ns ++ [("#" : Str)]) (hash_it F hl5 rfl) (by rw [List.length_append]; simp; omega) fun y hy ρ1 F1 => ?_
        have hyn : y ∈ ns ∨ y = "#" := by
          rcases List.mem_append.mp hy with h | h
          · exact .inl h
          · exact .inr (List.mem_singleton.mp h)
        have ht := tf_spec (u := u4) kg hxn hyn
        have q7 := F1.val 7 _ rfl
        have q8 := F1.val 8 _ rfl
        have q15 := F1.val 15 _ rfl
        simp [x_meth, q7, q8, q15, ob_tells, x_kw, prm, ht]
      · have q3 := F.val 3 _ rfl
        have hL := f_lcA (u := u4) F D.str (fun y => .bl (decide (y ∈ tlist ns told x))) ns (fi := dItems (dVar 3)) (i := 15) (e := dOp oInD (dVar 15) (dOp oIx (dVar 4) (dVar 8))) (by simp [x_items, q3, itemsD]) (by omega) fun y hy ρ1 F1 => by
          have q4 := F1.val 4 _ rfl
          have q8 := F1.val 8 _ rfl
          have q15 := F1.val 15 _ rfl
          have hix := ix_tlist kg hxn
          have hok : okN (tlist ns told x) := by
            unfold tlist
            by_cases e : x = "#"
            · rw [if_pos e]; exact kg.ok
            · rw [if_neg e]; exact kg.okt (hxn.resolve_right e)
          have hin : oInD (.str y) (.lst (sD (tlist ns told x))) = some (.bl (decide (y ∈ tlist ns told x))) := by unfold oInD; rw [in_lstS (kg.ok y hy) hok]; rfl
          simp [q4, q8, q15, hix, hin]
        have s1 : small 1 = true := rfl
        have had : oAdd (.lst (ns.map fun y => .bl (decide (y ∈ tlist ns told x)))) (.lst [.bl false]) = some (G2 ns told x) := by
          rw [add_lst (by rw [List.length_map]; simp; omega), ← tf_row kg hxn]; rfl
        rw [x_op]
        simp [hL, s1, had]
    rintro ρ _ ⟨rfl, F⟩
    -- lists for tuples
    refine f_setM2L F (sD ns) (tl.map (prB false)) u4 (by
      have q2 := F.val 2 _ rfl
      have q3 := F.val 3 _ rfl
      have l1 := lists_names (ns := ns) (u := u4) (by omega)
      have l2 := lists_pairs (tl := tl) (u := u4) (by omega)
      have o1 : isOb (.lst (sD ns)) = false := rfl
      have o2 : isOb (.lst (tl.map (prB false))) = false := rfl
      simp [mOwn, mNil, q2, q3, i1, l1, l2, o1, o2]) fun ρ F => ?_
    refine f_set F (keysD ns told) u4 (f_lend F (by
      have F2 := F.frz
      have q10 := F2.val 10 _ rfl
      have q11 := F2.val 11 _ rfl
      have hk2 : i_Keys_D_initD_ [.lst (sD ns), .lst (tl.map (prB false))] u4 = .ok (keysF ns told) u4 := B.made (bn := false) (bt := false) (bp := false) (u := u4) bk.srt (by omega) (List.Perm.refl _)
      simp [x_make, x_kw, q10, q11, prm, hk2, hk]) (noK_keys ns told)) fun ρ F => ?_
    refine f_app F (sD ns) (.str "q") u4 rfl rfl (by unfold sD; rw [List.length_map]; omega) fun ρ F => ?_
    obtain ⟨n0, hn0⟩ : ∃ n0, ns[0]? = some n0 := by
      cases h : ns with
      | nil => exact absurd h bk.ne
      | cons x r => exact ⟨x, rfl⟩
    have ix0 : oIx (.tup (sD ns)) (.int 0) = some (.str n0) := by
      have := atI_sD (i := 0) hn0
      exact this
    refine f_app F (tl.map (prB false)) (.lst [.str n0, .str "q"]) u4 rfl (by
      have q3 := F.val 3 _ rfl
      simp [q3, ix0, sm2]) (by rw [List.length_map]; omega) fun ρ F => ?_
    -- other Keys
    refine f_set F (keysD ns fun _ => []) u4 (by
      have q3 := F.val 3 _ rfl
      have hp := B.plain (u := u4)
      simp [q3, x_make, hp]
      rfl) fun ρ F => ?_
    obtain ⟨wt, hwt⟩ := wide1 (u := u4) B F rfl rfl
    refine f_set F (keysD (sset (wideNs ns)) wt) u4 hwt fun ρ F => ?_
    obtain ⟨w1, w2, w3, w4⟩ := wide_ok B
    have hwne : sset (wideNs ns) ≠ ns := fun e => B.nq (e ▸ mem_sset.mpr w4)
    have hwok : okN (sset (wideNs ns)) := okN_sub w1 fun x hx => mem_sset.mp hx
    have s4 : small 4 = true := rfl
    have ee1 := eq_spec2 (u := u4) kg kg
    have ee2 := eq_spec2 (u := u4) kg.of_sub kg
    have ee3 := eq_spec3 (told := wt) (t2 := told) (u := u4) hwok kg.ok hwne
    have ealt : (ns.all fun x => decide (told x = told x)) = true := by simp
    rw [ealt] at ee1
    rw [all_nil] at ee2
    refine f_set F (.lst [.bl true, .bl false, .bl (decide (pairsOf ns told = [])), .bl false]) u4 (by
      have q7 := F.val 7 _ rfl
      have q12 := F.val 12 _ rfl
      have q13 := F.val 13 _ rfl
      have q14 := F.val 14 _ rfl
      simp [x_own2, x_neOwn, q7, q12, q13, q14, isO, tyO, ee1, ee2, ee3, isNotB, s4]) fun ρ F => ?_
    have hot : isiD tb_Keys (.tup (sD ns)) = some (.bl false) := rfl
    have eo := eq_other (ns := ns) (told := told) (u := u4) hot
    have tyT : (tyD (.tup (sD ns))).any tbo_Keys = true := rfl
    have s0 : small 0 = true := rfl
    refine f_pass F u4 (fun ρ F => by
      have q3 := F.val 3 _ rfl
      have q6 := F.val 6 _ rfl
      have q7 := F.val 7 _ rfl
      have q9 := F.val 9 _ rfl
      have hgn := goal_nil kg hl5
      have hs := same_ok (x := .lst [.bl true, .bl false, .bl (decide (pairsOf ns told = [])), .bl false]) (u := u4) rfl rfl (by show 1 < 6; decide)
      simp [q3, q6, q7, q9, hgn, s0, s4, hs, tru_bl, x_tst, x_own2, isO, tyT, eo]) ?_
    -- in
    refine f_set F (.lst (fiveN.map fun x => .bl (decide (x ∈ ns)))) u4 (f_lcA (u := u4) F D.str (fun x => .bl (decide (x ∈ ns))) fiveN rfl (by show 5 ≤ 100000; decide) fun x hx ρ1 F1 => by
      have q7 := F1.val 7 _ rfl
      have q8 := F1.val 8 _ rfl
      have hok : PyData.strOk x = true := by
        have : ∀ x ∈ fiveN, PyData.strOk x = true := by decide +kernel
        exact this x hx
      have hc := contains_spec (ns := ns) (told := told) (u := u4) hok kg.ok
      simp [x_inOwn, q7, q8, isO, hc, isB]) fun ρ F => ?_
    have nb : ("b" : Str) ∉ ns := fun h => by
      have := bk.ok _ h
      revert this
      decide +kernel
    have m5 : (fiveN.map fun x => D.bl (decide (x ∈ ns))) = [.bl (decide (("a" : Str) ∈ ns)), .bl (decide (("city" : Str) ∈ ns)), .bl false, .bl false, .bl false] := by
      unfold fiveN
      simp [B.nq, kg.nh, nb]
    rw [m5] at F
    refine w_last (f_pass F u4 (fun ρ F => same_c (d := .lst [.bl (decide (("a" : Str) ∈ ns)), .bl (decide (("city" : Str) ∈ ns)), .bl false, .bl false, .bl false]) (by have q9 := F.val 9 _ rfl; rw [x_var, q9]; rfl) (by
      have q3 := F.val 3 _ rfl
      have h1 : oInD (.str "a") (.tup (sD ns)) = some (.bl (decide (("a" : Str) ∈ ns))) := by unfold oInD; rw [in_tupS (by decide +kernel) kg.ok]; rfl
      have h2 : oInD (.str "city") (.tup (sD ns)) = some (.bl (decide (("city" : Str) ∈ ns))) := by unfold oInD; rw [in_tupS (by decide +kernel) kg.ok]; rfl
      have h3 : oMulX (.lst [.bl false]) (.int 3) = some (.lst [.bl false, .bl false, .bl false]) := rfl
      have s1 : small 1 = true := rfl
      have had : oAdd (.lst [.bl (decide (("a" : Str) ∈ ns)), .bl (decide (("city" : Str) ∈ ns))]) (.lst [.bl false, .bl false, .bl false]) = some (.lst [.bl (decide (("a" : Str) ∈ ns)), .bl (decide (("city" : Str) ∈ ns)), .bl false, .bl false, .bl false]) := rfl
      simp [q3, h1, h2, h3, s1, sm2, had]) rfl rfl (by show 1 < 6; decide)) (w_nx ⟨_, u4, rfl, F.pick [0] rfl, g4⟩))
  · rintro ρ u ⟨F, g⟩
    exact f_ret F _ u (fun ρ' F' => rfl) ⟨u, rfl⟩
end Pr
set_option Elab.async false
set_option maxRecDepth 100000
set_option maxHeartbeats 4000000
namespace Pr
open PySem L2 Evl Dl
set_option linter.all false
theorem all_mk {P : Program} {K : PySem.W.Frag} {h : Heap} {mg : Str → Option Value} {fa : Addr} (X : K.In h) (G : h.Ns mainGlobals mg) (hfa : mg "law" = some (.ref fa))
    {C_NoName : Addr}
    {C_NoPlace : Addr}
    {C_BadField : Addr}
    {C_BadLine : Addr}
    {C_Ringed : Addr}
    {C_Keys : Addr}
    {f_reached : Addr}
    {oc_reached : Value}
    {od_reached : Option Addr}
    {kV_reached : Value}
    {doc_reached : Value}
    {pm_reached : Value}
    {an_reached : Option Addr}
    {cd_reached : Value}
    {ty_reached : Value}
    {sl_reached : Array (Option Value)}
    {f_check_name : Addr}
    {oc_check_name : Value}
    {od_check_name : Option Addr}
    {kV_check_name : Value}
    {doc_check_name : Value}
    {pm_check_name : Value}
    {an_check_name : Option Addr}
    {cd_check_name : Value}
    {ty_check_name : Value}
    {sl_check_name : Array (Option Value)}
    {f_Keys_D_initD_ : Addr}
    {oc_Keys_D_initD_ : Value}
    {od_Keys_D_initD_ : Option Addr}
    {kV_Keys_D_initD_ : Value}
    {doc_Keys_D_initD_ : Value}
    {pm_Keys_D_initD_ : Value}
    {an_Keys_D_initD_ : Option Addr}
    {cd_Keys_D_initD_ : Value}
    {ty_Keys_D_initD_ : Value}
    {sl_Keys_D_initD_ : Array (Option Value)}
    {T_Keys_D_initD_ : Addr}
    {tc_Keys_D_initD_ : Value}
    {td_Keys_D_initD_ : Option Addr}
    {tn_Keys_D_initD_ : Nat}
    {tsl_Keys_D_initD_ : Array (Option Value)}
    {e0_Keys_D_initD_ : Addr}
    {f_Keys_names : Addr}
    {p_Keys_names : Addr}
    {oc_Keys_names : Value}
    {od_Keys_names : Option Addr}
    {kV_Keys_names : Value}
    {doc_Keys_names : Value}
    {pm_Keys_names : Value}
    {an_Keys_names : Option Addr}
    {cd_Keys_names : Value}
    {ty_Keys_names : Value}
    {sl_Keys_names : Array (Option Value)}
    {f_Keys_pairs : Addr}
    {p_Keys_pairs : Addr}
    {oc_Keys_pairs : Value}
    {od_Keys_pairs : Option Addr}
    {kV_Keys_pairs : Value}
    {doc_Keys_pairs : Value}
    {pm_Keys_pairs : Value}
    {an_Keys_pairs : Option Addr}
    {cd_Keys_pairs : Value}
    {ty_Keys_pairs : Value}
    {sl_Keys_pairs : Array (Option Value)}
    {f_Keys_told : Addr}
    {oc_Keys_told : Value}
    {od_Keys_told : Option Addr}
    {kV_Keys_told : Value}
    {doc_Keys_told : Value}
    {pm_Keys_told : Value}
    {an_Keys_told : Option Addr}
    {cd_Keys_told : Value}
    {ty_Keys_told : Value}
    {sl_Keys_told : Array (Option Value)}
    {f_Keys_tells : Addr}
    {oc_Keys_tells : Value}
    {od_Keys_tells : Option Addr}
    {kV_Keys_tells : Value}
    {doc_Keys_tells : Value}
    {pm_Keys_tells : Value}
    {an_Keys_tells : Option Addr}
    {cd_Keys_tells : Value}
    {ty_Keys_tells : Value}
    {sl_Keys_tells : Array (Option Value)}
    {f_Keys_D_containsD_ : Addr}
    {oc_Keys_D_containsD_ : Value}
    {od_Keys_D_containsD_ : Option Addr}
    {kV_Keys_D_containsD_ : Value}
    {doc_Keys_D_containsD_ : Value}
    {pm_Keys_D_containsD_ : Value}
    {an_Keys_D_containsD_ : Option Addr}
    {cd_Keys_D_containsD_ : Value}
    {ty_Keys_D_containsD_ : Value}
    {sl_Keys_D_containsD_ : Array (Option Value)}
    {f_Keys_D_lenD_ : Addr}
    {oc_Keys_D_lenD_ : Value}
    {od_Keys_D_lenD_ : Option Addr}
    {kV_Keys_D_lenD_ : Value}
    {doc_Keys_D_lenD_ : Value}
    {pm_Keys_D_lenD_ : Value}
    {an_Keys_D_lenD_ : Option Addr}
    {cd_Keys_D_lenD_ : Value}
    {ty_Keys_D_lenD_ : Value}
    {sl_Keys_D_lenD_ : Array (Option Value)}
    {f_Keys_D_eqD_ : Addr}
    {oc_Keys_D_eqD_ : Value}
    {od_Keys_D_eqD_ : Option Addr}
    {kV_Keys_D_eqD_ : Value}
    {doc_Keys_D_eqD_ : Value}
    {pm_Keys_D_eqD_ : Value}
    {an_Keys_D_eqD_ : Option Addr}
    {cd_Keys_D_eqD_ : Value}
    {ty_Keys_D_eqD_ : Value}
    {sl_Keys_D_eqD_ : Array (Option Value)}
    {f__law_box : Addr}
    {oc__law_box : Value}
    {od__law_box : Option Addr}
    {kV__law_box : Value}
    {doc__law_box : Value}
    {pm__law_box : Value}
    {an__law_box : Option Addr}
    {cd__law_box : Value}
    {ty__law_box : Value}
    {sl__law_box : Array (Option Value)}
    {f__law_take : Addr}
    {oc__law_take : Value}
    {od__law_take : Option Addr}
    {kV__law_take : Value}
    {doc__law_take : Value}
    {pm__law_take : Value}
    {an__law_take : Option Addr}
    {cd__law_take : Value}
    {ty__law_take : Value}
    {sl__law_take : Array (Option Value)}
    {f__law_cells : Addr}
    {oc__law_cells : Value}
    {od__law_cells : Option Addr}
    {kV__law_cells : Value}
    {doc__law_cells : Value}
    {pm__law_cells : Value}
    {an__law_cells : Option Addr}
    {cd__law_cells : Value}
    {ty__law_cells : Value}
    {sl__law_cells : Array (Option Value)}
    {f__law_lists : Addr}
    {oc__law_lists : Value}
    {od__law_lists : Option Addr}
    {kV__law_lists : Value}
    {doc__law_lists : Value}
    {pm__law_lists : Value}
    {an__law_lists : Option Addr}
    {cd__law_lists : Value}
    {ty__law_lists : Value}
    {sl__law_lists : Array (Option Value)}
    {f__law_same : Addr}
    {oc__law_same : Value}
    {od__law_same : Option Addr}
    {kV__law_same : Value}
    {doc__law_same : Value}
    {pm__law_same : Value}
    {an__law_same : Option Addr}
    {cd__law_same : Value}
    {ty__law_same : Value}
    {sl__law_same : Array (Option Value)}
    {f__law_few : Addr}
    {oc__law_few : Value}
    {od__law_few : Option Addr}
    {kV__law_few : Value}
    {doc__law_few : Value}
    {pm__law_few : Value}
    {an__law_few : Option Addr}
    {cd__law_few : Value}
    {ty__law_few : Value}
    {sl__law_few : Array (Option Value)}
    {f__law_mixed : Addr}
    {oc__law_mixed : Value}
    {od__law_mixed : Option Addr}
    {kV__law_mixed : Value}
    {doc__law_mixed : Value}
    {pm__law_mixed : Value}
    {an__law_mixed : Option Addr}
    {cd__law_mixed : Value}
    {ty__law_mixed : Value}
    {sl__law_mixed : Array (Option Value)}
    {f__law_book : Addr}
    {oc__law_book : Value}
    {od__law_book : Option Addr}
    {kV__law_book : Value}
    {doc__law_book : Value}
    {pm__law_book : Value}
    {an__law_book : Option Addr}
    {cd__law_book : Value}
    {ty__law_book : Value}
    {sl__law_book : Array (Option Value)}
    {f__law_told : Addr}
    {oc__law_told : Value}
    {od__law_told : Option Addr}
    {kV__law_told : Value}
    {doc__law_told : Value}
    {pm__law_told : Value}
    {an__law_told : Option Addr}
    {cd__law_told : Value}
    {ty__law_told : Value}
    {sl__law_told : Array (Option Value)}
    {f__law_heard : Addr}
    {oc__law_heard : Value}
    {od__law_heard : Option Addr}
    {kV__law_heard : Value}
    {doc__law_heard : Value}
    {pm__law_heard : Value}
    {an__law_heard : Option Addr}
    {cd__law_heard : Value}
    {ty__law_heard : Value}
    {sl__law_heard : Array (Option Value)}
    {f__law_by_hand_right : Addr}
    {oc__law_by_hand_right : Value}
    {od__law_by_hand_right : Option Addr}
    {kV__law_by_hand_right : Value}
    {doc__law_by_hand_right : Value}
    {pm__law_by_hand_right : Value}
    {an__law_by_hand_right : Option Addr}
    {cd__law_by_hand_right : Value}
    {ty__law_by_hand_right : Value}
    {sl__law_by_hand_right : Array (Option Value)}
    {f__law_right : Addr}
    {oc__law_right : Value}
    {od__law_right : Option Addr}
    {kV__law_right : Value}
    {doc__law_right : Value}
    {pm__law_right : Value}
    {an__law_right : Option Addr}
    {cd__law_right : Value}
    {ty__law_right : Value}
    {sl__law_right : Array (Option Value)}
    {f_law : Addr}
    {oc_law : Value}
    {od_law : Option Addr}
    {kV_law : Value}
    {doc_law : Value}
    {pm_law : Value}
    {an_law : Option Addr}
    {cd_law : Value}
    {ty_law : Value}
    {sl_law : Array (Option Value)}
    {rest_Keys_names : List Value}
    {rest_Keys_pairs : List Value}
    {tk_NUMBER : Tok}
    {i_NoName : Addr}
    {cc_NoName : Addr}
    {cda_NoName : Addr}
    {xoc_NoName : Value}
    {xod_NoName : Option Addr}
    {xkV_NoName : Value}
    {xdoc_NoName : Value}
    {xpm_NoName : Value}
    {xan_NoName : Option Addr}
    {xty_NoName : Value}
    {xsl_NoName : Array (Option Value)}
    {ycl_NoName : Value}
    {ydd_NoName : Option Addr}
    {yvs_NoName : Array Value}
    {ysl_NoName : Array (Option Value)}
    {yfile_NoName : Str}
    {ytk_NoName : Tok}
    {wcl_NoName : Value}
    {wdd_NoName : Option Addr}
    {wsl_NoName : Array (Option Value)}
    {i_Ringed : Addr}
    {cc_Ringed : Addr}
    {cda_Ringed : Addr}
    {xoc_Ringed : Value}
    {xod_Ringed : Option Addr}
    {xkV_Ringed : Value}
    {xdoc_Ringed : Value}
    {xpm_Ringed : Value}
    {xan_Ringed : Option Addr}
    {xty_Ringed : Value}
    {xsl_Ringed : Array (Option Value)}
    {ycl_Ringed : Value}
    {ydd_Ringed : Option Addr}
    {yvs_Ringed : Array Value}
    {ysl_Ringed : Array (Option Value)}
    {yfile_Ringed : Str}
    {ytk_Ringed : Tok}
    {wcl_Ringed : Value}
    {wdd_Ringed : Option Addr}
    {wsl_Ringed : Array (Option Value)}
    {vd0_Keys_D_initD_ : Option Addr}
    {vn0_Keys_D_initD_ : Nat}
    {vs0_Keys_D_initD_ : Array (Option Value)}
    (ac_NoName : PySem.W.nsIn K mainGlobals "NoName" = some (some (.ref C_NoName)))
    (ac_NoPlace : PySem.W.nsIn K mainGlobals "NoPlace" = some (some (.ref C_NoPlace)))
    (ac_BadField : PySem.W.nsIn K mainGlobals "BadField" = some (some (.ref C_BadField)))
    (ac_BadLine : PySem.W.nsIn K mainGlobals "BadLine" = some (some (.ref C_BadLine)))
    (ac_Ringed : PySem.W.nsIn K mainGlobals "Ringed" = some (some (.ref C_Ringed)))
    (ac_Keys : PySem.W.nsIn K mainGlobals "Keys" = some (some (.ref C_Keys)))
    (a_reached : PySem.W.nsIn K mainGlobals "reached" = some (some (.ref f_reached)))
    (l_reached : K.lookup f_reached = some ⟨oc_reached, od_reached, .func (PySem.W.fnOf "reached" "reached" (defArgs s_reached) (defBody s_reached) (defScope s_reached) .none kV_reached doc_reached pm_reached an_reached cd_reached ty_reached), sl_reached⟩)
    (c_reached : PySem.W.codeIn K cd_reached "reached" = true)
    (k_reached : PySem.W.keepIn K (.ref f_reached) = true)
    (a_check_name : PySem.W.nsIn K mainGlobals "check_name" = some (some (.ref f_check_name)))
    (l_check_name : K.lookup f_check_name = some ⟨oc_check_name, od_check_name, .func (PySem.W.fnOf "check_name" "check_name" (defArgs s_check_name) (defBody s_check_name) (defScope s_check_name) .none kV_check_name doc_check_name pm_check_name an_check_name cd_check_name ty_check_name), sl_check_name⟩)
    (c_check_name : PySem.W.codeIn K cd_check_name "check_name" = true)
    (k_check_name : PySem.W.keepIn K (.ref f_check_name) = true)
    (a_Keys_D_initD_ : PySem.W.findIn K (.ref C_Keys) "__init__" = some (some (.ref f_Keys_D_initD_)))
    (l_Keys_D_initD_ : K.lookup f_Keys_D_initD_ = some ⟨oc_Keys_D_initD_, od_Keys_D_initD_, .func (PySem.W.fnOf "__init__" "Keys.__init__" (defArgs s_Keys_D_initD_) (defBody s_Keys_D_initD_) (defScope s_Keys_D_initD_) (.ref T_Keys_D_initD_) kV_Keys_D_initD_ doc_Keys_D_initD_ pm_Keys_D_initD_ an_Keys_D_initD_ cd_Keys_D_initD_ ty_Keys_D_initD_), sl_Keys_D_initD_⟩)
    (c_Keys_D_initD_ : PySem.W.codeIn K cd_Keys_D_initD_ "Keys.__init__" = true)
    (k_Keys_D_initD_ : PySem.W.keepIn K (.ref f_Keys_D_initD_) = true)
    (i_Keys_D_initD_ : PySem.W.isFn K (.ref f_Keys_D_initD_) = true)
    (t_Keys_D_initD_ : K.lookup T_Keys_D_initD_ = some ⟨tc_Keys_D_initD_, td_Keys_D_initD_, .seq #[.ref e0_Keys_D_initD_] tn_Keys_D_initD_, tsl_Keys_D_initD_⟩)
    (a_Keys_names : PySem.W.findIn K (.ref C_Keys) "names" = some (some (.ref p_Keys_names)))
    (rc_Keys_names : PySem.W.recIn K p_Keys_names "property" = some (.ref f_Keys_names :: rest_Keys_names))
    (pg_Keys_names : PySem.W.specialIn K (.ref p_Keys_names) "__get__" = some (some (.builtin "property.__get__")))
    (pt_Keys_names : PySem.W.takesIn K (.ref p_Keys_names) = some true)
    (l_Keys_names : K.lookup f_Keys_names = some ⟨oc_Keys_names, od_Keys_names, .func (PySem.W.fnOf "names" "Keys.names" (defArgs s_Keys_names) (defBody s_Keys_names) (defScope s_Keys_names) .none kV_Keys_names doc_Keys_names pm_Keys_names an_Keys_names cd_Keys_names ty_Keys_names), sl_Keys_names⟩)
    (c_Keys_names : PySem.W.codeIn K cd_Keys_names "Keys.names" = true)
    (k_Keys_names : PySem.W.keepIn K (.ref f_Keys_names) = true)
    (a_Keys_pairs : PySem.W.findIn K (.ref C_Keys) "pairs" = some (some (.ref p_Keys_pairs)))
    (rc_Keys_pairs : PySem.W.recIn K p_Keys_pairs "property" = some (.ref f_Keys_pairs :: rest_Keys_pairs))
    (pg_Keys_pairs : PySem.W.specialIn K (.ref p_Keys_pairs) "__get__" = some (some (.builtin "property.__get__")))
    (pt_Keys_pairs : PySem.W.takesIn K (.ref p_Keys_pairs) = some true)
    (l_Keys_pairs : K.lookup f_Keys_pairs = some ⟨oc_Keys_pairs, od_Keys_pairs, .func (PySem.W.fnOf "pairs" "Keys.pairs" (defArgs s_Keys_pairs) (defBody s_Keys_pairs) (defScope s_Keys_pairs) .none kV_Keys_pairs doc_Keys_pairs pm_Keys_pairs an_Keys_pairs cd_Keys_pairs ty_Keys_pairs), sl_Keys_pairs⟩)
    (c_Keys_pairs : PySem.W.codeIn K cd_Keys_pairs "Keys.pairs" = true)
    (k_Keys_pairs : PySem.W.keepIn K (.ref f_Keys_pairs) = true)
    (a_Keys_told : PySem.W.findIn K (.ref C_Keys) "told" = some (some (.ref f_Keys_told)))
    (l_Keys_told : K.lookup f_Keys_told = some ⟨oc_Keys_told, od_Keys_told, .func (PySem.W.fnOf "told" "Keys.told" (defArgs s_Keys_told) (defBody s_Keys_told) (defScope s_Keys_told) .none kV_Keys_told doc_Keys_told pm_Keys_told an_Keys_told cd_Keys_told ty_Keys_told), sl_Keys_told⟩)
    (c_Keys_told : PySem.W.codeIn K cd_Keys_told "Keys.told" = true)
    (k_Keys_told : PySem.W.keepIn K (.ref f_Keys_told) = true)
    (i_Keys_told : PySem.W.isFn K (.ref f_Keys_told) = true)
    (a_Keys_tells : PySem.W.findIn K (.ref C_Keys) "tells" = some (some (.ref f_Keys_tells)))
    (l_Keys_tells : K.lookup f_Keys_tells = some ⟨oc_Keys_tells, od_Keys_tells, .func (PySem.W.fnOf "tells" "Keys.tells" (defArgs s_Keys_tells) (defBody s_Keys_tells) (defScope s_Keys_tells) .none kV_Keys_tells doc_Keys_tells pm_Keys_tells an_Keys_tells cd_Keys_tells ty_Keys_tells), sl_Keys_tells⟩)
    (c_Keys_tells : PySem.W.codeIn K cd_Keys_tells "Keys.tells" = true)
    (k_Keys_tells : PySem.W.keepIn K (.ref f_Keys_tells) = true)
    (i_Keys_tells : PySem.W.isFn K (.ref f_Keys_tells) = true)
    (a_Keys_D_containsD_ : PySem.W.findIn K (.ref C_Keys) "__contains__" = some (some (.ref f_Keys_D_containsD_)))
    (l_Keys_D_containsD_ : K.lookup f_Keys_D_containsD_ = some ⟨oc_Keys_D_containsD_, od_Keys_D_containsD_, .func (PySem.W.fnOf "__contains__" "Keys.__contains__" (defArgs s_Keys_D_containsD_) (defBody s_Keys_D_containsD_) (defScope s_Keys_D_containsD_) .none kV_Keys_D_containsD_ doc_Keys_D_containsD_ pm_Keys_D_containsD_ an_Keys_D_containsD_ cd_Keys_D_containsD_ ty_Keys_D_containsD_), sl_Keys_D_containsD_⟩)
    (c_Keys_D_containsD_ : PySem.W.codeIn K cd_Keys_D_containsD_ "Keys.__contains__" = true)
    (k_Keys_D_containsD_ : PySem.W.keepIn K (.ref f_Keys_D_containsD_) = true)
    (i_Keys_D_containsD_ : PySem.W.isFn K (.ref f_Keys_D_containsD_) = true)
    (a_Keys_D_lenD_ : PySem.W.findIn K (.ref C_Keys) "__len__" = some (some (.ref f_Keys_D_lenD_)))
    (l_Keys_D_lenD_ : K.lookup f_Keys_D_lenD_ = some ⟨oc_Keys_D_lenD_, od_Keys_D_lenD_, .func (PySem.W.fnOf "__len__" "Keys.__len__" (defArgs s_Keys_D_lenD_) (defBody s_Keys_D_lenD_) (defScope s_Keys_D_lenD_) .none kV_Keys_D_lenD_ doc_Keys_D_lenD_ pm_Keys_D_lenD_ an_Keys_D_lenD_ cd_Keys_D_lenD_ ty_Keys_D_lenD_), sl_Keys_D_lenD_⟩)
    (c_Keys_D_lenD_ : PySem.W.codeIn K cd_Keys_D_lenD_ "Keys.__len__" = true)
    (k_Keys_D_lenD_ : PySem.W.keepIn K (.ref f_Keys_D_lenD_) = true)
    (i_Keys_D_lenD_ : PySem.W.isFn K (.ref f_Keys_D_lenD_) = true)
    (a_Keys_D_eqD_ : PySem.W.findIn K (.ref C_Keys) "__eq__" = some (some (.ref f_Keys_D_eqD_)))
    (l_Keys_D_eqD_ : K.lookup f_Keys_D_eqD_ = some ⟨oc_Keys_D_eqD_, od_Keys_D_eqD_, .func (PySem.W.fnOf "__eq__" "Keys.__eq__" (defArgs s_Keys_D_eqD_) (defBody s_Keys_D_eqD_) (defScope s_Keys_D_eqD_) .none kV_Keys_D_eqD_ doc_Keys_D_eqD_ pm_Keys_D_eqD_ an_Keys_D_eqD_ cd_Keys_D_eqD_ ty_Keys_D_eqD_), sl_Keys_D_eqD_⟩)
    (c_Keys_D_eqD_ : PySem.W.codeIn K cd_Keys_D_eqD_ "Keys.__eq__" = true)
    (k_Keys_D_eqD_ : PySem.W.keepIn K (.ref f_Keys_D_eqD_) = true)
    (i_Keys_D_eqD_ : PySem.W.isFn K (.ref f_Keys_D_eqD_) = true)
    (a__law_box : PySem.W.nsIn K mainGlobals "_law_box" = some (some (.ref f__law_box)))
    (l__law_box : K.lookup f__law_box = some ⟨oc__law_box, od__law_box, .func (PySem.W.fnOf "_law_box" "_law_box" (defArgs s__law_box) (defBody s__law_box) (defScope s__law_box) .none kV__law_box doc__law_box pm__law_box an__law_box cd__law_box ty__law_box), sl__law_box⟩)
    (c__law_box : PySem.W.codeIn K cd__law_box "_law_box" = true)
    (k__law_box : PySem.W.keepIn K (.ref f__law_box) = true)
    (a__law_take : PySem.W.nsIn K mainGlobals "_law_take" = some (some (.ref f__law_take)))
    (l__law_take : K.lookup f__law_take = some ⟨oc__law_take, od__law_take, .func (PySem.W.fnOf "_law_take" "_law_take" (defArgs s__law_take) (defBody s__law_take) (defScope s__law_take) .none kV__law_take doc__law_take pm__law_take an__law_take cd__law_take ty__law_take), sl__law_take⟩)
    (c__law_take : PySem.W.codeIn K cd__law_take "_law_take" = true)
    (k__law_take : PySem.W.keepIn K (.ref f__law_take) = true)
    (a__law_cells : PySem.W.nsIn K mainGlobals "_law_cells" = some (some (.ref f__law_cells)))
    (l__law_cells : K.lookup f__law_cells = some ⟨oc__law_cells, od__law_cells, .func (PySem.W.fnOf "_law_cells" "_law_cells" (defArgs s__law_cells) (defBody s__law_cells) (defScope s__law_cells) .none kV__law_cells doc__law_cells pm__law_cells an__law_cells cd__law_cells ty__law_cells), sl__law_cells⟩)
    (c__law_cells : PySem.W.codeIn K cd__law_cells "_law_cells" = true)
    (k__law_cells : PySem.W.keepIn K (.ref f__law_cells) = true)
    (a__law_lists : PySem.W.nsIn K mainGlobals "_law_lists" = some (some (.ref f__law_lists)))
    (l__law_lists : K.lookup f__law_lists = some ⟨oc__law_lists, od__law_lists, .func (PySem.W.fnOf "_law_lists" "_law_lists" (defArgs s__law_lists) (defBody s__law_lists) (defScope s__law_lists) .none kV__law_lists doc__law_lists pm__law_lists an__law_lists cd__law_lists ty__law_lists), sl__law_lists⟩)
    (c__law_lists : PySem.W.codeIn K cd__law_lists "_law_lists" = true)
    (k__law_lists : PySem.W.keepIn K (.ref f__law_lists) = true)
    (a__law_same : PySem.W.nsIn K mainGlobals "_law_same" = some (some (.ref f__law_same)))
    (l__law_same : K.lookup f__law_same = some ⟨oc__law_same, od__law_same, .func (PySem.W.fnOf "_law_same" "_law_same" (defArgs s__law_same) (defBody s__law_same) (defScope s__law_same) .none kV__law_same doc__law_same pm__law_same an__law_same cd__law_same ty__law_same), sl__law_same⟩)
    (c__law_same : PySem.W.codeIn K cd__law_same "_law_same" = true)
    (k__law_same : PySem.W.keepIn K (.ref f__law_same) = true)
    (a__law_few : PySem.W.nsIn K mainGlobals "_law_few" = some (some (.ref f__law_few)))
    (l__law_few : K.lookup f__law_few = some ⟨oc__law_few, od__law_few, .func (PySem.W.fnOf "_law_few" "_law_few" (defArgs s__law_few) (defBody s__law_few) (defScope s__law_few) .none kV__law_few doc__law_few pm__law_few an__law_few cd__law_few ty__law_few), sl__law_few⟩)
    (c__law_few : PySem.W.codeIn K cd__law_few "_law_few" = true)
    (k__law_few : PySem.W.keepIn K (.ref f__law_few) = true)
    (a__law_mixed : PySem.W.nsIn K mainGlobals "_law_mixed" = some (some (.ref f__law_mixed)))
    (l__law_mixed : K.lookup f__law_mixed = some ⟨oc__law_mixed, od__law_mixed, .func (PySem.W.fnOf "_law_mixed" "_law_mixed" (defArgs s__law_mixed) (defBody s__law_mixed) (defScope s__law_mixed) .none kV__law_mixed doc__law_mixed pm__law_mixed an__law_mixed cd__law_mixed ty__law_mixed), sl__law_mixed⟩)
    (c__law_mixed : PySem.W.codeIn K cd__law_mixed "_law_mixed" = true)
    (k__law_mixed : PySem.W.keepIn K (.ref f__law_mixed) = true)
    (a__law_book : PySem.W.nsIn K mainGlobals "_law_book" = some (some (.ref f__law_book)))
    (l__law_book : K.lookup f__law_book = some ⟨oc__law_book, od__law_book, .func (PySem.W.fnOf "_law_book" "_law_book" (defArgs s__law_book) (defBody s__law_book) (defScope s__law_book) .none kV__law_book doc__law_book pm__law_book an__law_book cd__law_book ty__law_book), sl__law_book⟩)
    (c__law_book : PySem.W.codeIn K cd__law_book "_law_book" = true)
    (k__law_book : PySem.W.keepIn K (.ref f__law_book) = true)
    (a__law_told : PySem.W.nsIn K mainGlobals "_law_told" = some (some (.ref f__law_told)))
    (l__law_told : K.lookup f__law_told = some ⟨oc__law_told, od__law_told, .func (PySem.W.fnOf "_law_told" "_law_told" (defArgs s__law_told) (defBody s__law_told) (defScope s__law_told) .none kV__law_told doc__law_told pm__law_told an__law_told cd__law_told ty__law_told), sl__law_told⟩)
    (c__law_told : PySem.W.codeIn K cd__law_told "_law_told" = true)
    (k__law_told : PySem.W.keepIn K (.ref f__law_told) = true)
    (a__law_heard : PySem.W.nsIn K mainGlobals "_law_heard" = some (some (.ref f__law_heard)))
    (l__law_heard : K.lookup f__law_heard = some ⟨oc__law_heard, od__law_heard, .func (PySem.W.fnOf "_law_heard" "_law_heard" (defArgs s__law_heard) (defBody s__law_heard) (defScope s__law_heard) .none kV__law_heard doc__law_heard pm__law_heard an__law_heard cd__law_heard ty__law_heard), sl__law_heard⟩)
    (c__law_heard : PySem.W.codeIn K cd__law_heard "_law_heard" = true)
    (k__law_heard : PySem.W.keepIn K (.ref f__law_heard) = true)
    (a__law_by_hand_right : PySem.W.nsIn K mainGlobals "_law_by_hand_right" = some (some (.ref f__law_by_hand_right)))
    (l__law_by_hand_right : K.lookup f__law_by_hand_right = some ⟨oc__law_by_hand_right, od__law_by_hand_right, .func (PySem.W.fnOf "_law_by_hand_right" "_law_by_hand_right" (defArgs s__law_by_hand_right) (defBody s__law_by_hand_right) (defScope s__law_by_hand_right) .none kV__law_by_hand_right doc__law_by_hand_right pm__law_by_hand_right an__law_by_hand_right cd__law_by_hand_right ty__law_by_hand_right), sl__law_by_hand_right⟩)
    (c__law_by_hand_right : PySem.W.codeIn K cd__law_by_hand_right "_law_by_hand_right" = true)
    (k__law_by_hand_right : PySem.W.keepIn K (.ref f__law_by_hand_right) = true)
    (a__law_right : PySem.W.nsIn K mainGlobals "_law_right" = some (some (.ref f__law_right)))
    (l__law_right : K.lookup f__law_right = some ⟨oc__law_right, od__law_right, .func (PySem.W.fnOf "_law_right" "_law_right" (defArgs s__law_right) (defBody s__law_right) (defScope s__law_right) .none kV__law_right doc__law_right pm__law_right an__law_right cd__law_right ty__law_right), sl__law_right⟩)
    (c__law_right : PySem.W.codeIn K cd__law_right "_law_right" = true)
    (k__law_right : PySem.W.keepIn K (.ref f__law_right) = true)
    (a_law : PySem.W.nsIn K mainGlobals "law" = some (some (.ref f_law)))
    (l_law : K.lookup f_law = some ⟨oc_law, od_law, .func (PySem.W.fnOf "law" "law" (defArgs s_law) (defBody s_law) (defScope s_law) .none kV_law doc_law pm_law an_law cd_law ty_law), sl_law⟩)
    (c_law : PySem.W.codeIn K cd_law "law" = true)
    (k_law : PySem.W.keepIn K (.ref f_law) = true)
    (q1_Keys : PySem.W.plainGet K C_Keys Str.empty = true)
    (q2_Keys : PySem.W.hasDictIn K C_Keys = true)
    (q3_Keys : PySem.W.plainOver K C_Keys = true)
    (q4_Keys : PySem.W.findIn K (.ref C_Keys) "__setattr__" = some (some (.builtin "object.__setattr__")))
    (q5_Keys : PySem.W.makesIn K C_Keys = true)
    (q6_Keys : PySem.W.keepIn K (.ref C_Keys) = true)
    (z_list : PySem.W.nsIn K mainGlobals "list" = some none)
    (z_len : PySem.W.nsIn K mainGlobals "len" = some none)
    (z_sorted : PySem.W.nsIn K mainGlobals "sorted" = some none)
    (z_set : PySem.W.nsIn K mainGlobals "set" = some none)
    (z_tuple : PySem.W.nsIn K mainGlobals "tuple" = some none)
    (y_NUMBER : PySem.W.nsIn K mainGlobals "NUMBER" = some (some (.str "#" tk_NUMBER)))
    (x1_NoName : PySem.W.findIn K (.ref C_NoName) "__getattribute__" = some (some (.builtin "BaseException.__getattribute__")))
    (x2_NoName : PySem.W.findIn K (.ref C_NoName) "__getattr__" = some none)
    (x3_NoName : PySem.W.subIn K (.ref C_NoName) (.type "BaseException") = some true)
    (x4_NoName : PySem.W.hasDictIn K C_NoName = true)
    (e1_NoName : PySem.W.excInitIn K C_NoName [.type "LookupError", .type "Exception", .type "BaseException", .type "object"] "LookupError.__new__" = true)
    (e2_NoName : PySem.W.excOver K C_NoName [.type "LookupError", .type "Exception", .type "BaseException", .type "object"] = true)
    (e3_NoName : PySem.W.findIn K (.ref C_NoName) "__setattr__" = some (some (.builtin "object.__setattr__")))
    (e4_NoName : PySem.W.findIn K (.ref C_NoName) "__init__" = some (some (.ref i_NoName)))
    (e5_NoName : PySem.W.typeIn K (.ref i_NoName) = some (.type "function"))
    (e6_NoName : PySem.W.typeIn K (.ref C_NoName) = some (.type "type"))
    (e7_NoName : PySem.W.keepIn K (.ref C_NoName) = true)
    (nf_NoName_name : PySem.W.findIn K (.ref C_NoName) "name" = some none)
    (e8_NoName : K.lookup i_NoName = some ⟨xoc_NoName, xod_NoName, .func (PySem.W.ksFn "__init__" "NoName.__init__" (L2.defArgs (inClass (top 1) 0)) (L2.defBody (inClass (top 1) 0)) (L2.defScope (inClass (top 1) 0)) .none xkV_NoName xdoc_NoName xpm_NoName xan_NoName (.ref cda_NoName) xty_NoName cc_NoName), xsl_NoName⟩)
    (e9_NoName : PySem.W.codeIn K (.ref cda_NoName) "NoName.__init__" = true)
    (e10_NoName : K.lookup cda_NoName = some ⟨ycl_NoName, ydd_NoName, .fields yvs_NoName, ysl_NoName⟩)
    (e11_NoName : yvs_NoName[2]? = some (.str yfile_NoName ytk_NoName))
    (e12_NoName : (P.main.file == yfile_NoName) = true)
    (e13_NoName : K.lookup cc_NoName = some ⟨wcl_NoName, wdd_NoName, .cell (some (.ref C_NoName)), wsl_NoName⟩)
    (e14_NoName : PySem.W.ks_superIn K C_NoName C_NoName "__init__" = some (some (.builtin "LookupError.__init__")))
    (e15_NoName : PySem.W.subIn K (.ref C_NoName) (.type "LookupError") = some true)
    (e16_NoName : PySem.W.mroIn K C_NoName (.ref C_NoName) = some true)
    (oq : PySem.W.nsIn K cStatics "thirdparty.any" = some none)
    (tsup : (P.main.scope.names.lookup ("super" : Str)).isSome = false)
    (z_super : PySem.W.nsIn K mainGlobals "super" = some none)
    (nf_Keys_own_names : PySem.W.findIn K (.ref C_Keys) "own_names" = some none)
    (nf_Keys_own_told : PySem.W.findIn K (.ref C_Keys) "own_told" = some none)
    (x1_Ringed : PySem.W.findIn K (.ref C_Ringed) "__getattribute__" = some (some (.builtin "BaseException.__getattribute__")))
    (x2_Ringed : PySem.W.findIn K (.ref C_Ringed) "__getattr__" = some none)
    (x3_Ringed : PySem.W.subIn K (.ref C_Ringed) (.type "BaseException") = some true)
    (x4_Ringed : PySem.W.hasDictIn K C_Ringed = true)
    (e1_Ringed : PySem.W.excInitIn K C_Ringed [.type "ValueError", .type "Exception", .type "BaseException", .type "object"] "ValueError.__new__" = true)
    (e2_Ringed : PySem.W.excOver K C_Ringed [.type "ValueError", .type "Exception", .type "BaseException", .type "object"] = true)
    (e3_Ringed : PySem.W.findIn K (.ref C_Ringed) "__setattr__" = some (some (.builtin "object.__setattr__")))
    (e4_Ringed : PySem.W.findIn K (.ref C_Ringed) "__init__" = some (some (.ref i_Ringed)))
    (e5_Ringed : PySem.W.typeIn K (.ref i_Ringed) = some (.type "function"))
    (e6_Ringed : PySem.W.typeIn K (.ref C_Ringed) = some (.type "type"))
    (e7_Ringed : PySem.W.keepIn K (.ref C_Ringed) = true)
    (nf_Ringed_ring : PySem.W.findIn K (.ref C_Ringed) "ring" = some none)
    (e8_Ringed : K.lookup i_Ringed = some ⟨xoc_Ringed, xod_Ringed, .func (PySem.W.ksFn "__init__" "Ringed.__init__" (L2.defArgs (inClass (top 5) 0)) (L2.defBody (inClass (top 5) 0)) (L2.defScope (inClass (top 5) 0)) .none xkV_Ringed xdoc_Ringed xpm_Ringed xan_Ringed (.ref cda_Ringed) xty_Ringed cc_Ringed), xsl_Ringed⟩)
    (e9_Ringed : PySem.W.codeIn K (.ref cda_Ringed) "Ringed.__init__" = true)
    (e10_Ringed : K.lookup cda_Ringed = some ⟨ycl_Ringed, ydd_Ringed, .fields yvs_Ringed, ysl_Ringed⟩)
    (e11_Ringed : yvs_Ringed[2]? = some (.str yfile_Ringed ytk_Ringed))
    (e12_Ringed : (P.main.file == yfile_Ringed) = true)
    (e13_Ringed : K.lookup cc_Ringed = some ⟨wcl_Ringed, wdd_Ringed, .cell (some (.ref C_Ringed)), wsl_Ringed⟩)
    (e14_Ringed : PySem.W.ks_superIn K C_Ringed C_Ringed "__init__" = some (some (.builtin "ValueError.__init__")))
    (e15_Ringed : PySem.W.subIn K (.ref C_Ringed) (.type "ValueError") = some true)
    (e16_Ringed : PySem.W.mroIn K C_Ringed (.ref C_Ringed) = some true)
    (w_tb_Keys_non : PySem.W.kitOne K (.type "NoneType") (.ref C_Keys) = some false)
    (w_tb_Keys_bl : PySem.W.kitOne K (.type "bool") (.ref C_Keys) = some false)
    (w_tb_Keys_int : PySem.W.kitOne K (.type "int") (.ref C_Keys) = some false)
    (w_tb_Keys_str : PySem.W.kitOne K (.type "str") (.ref C_Keys) = some false)
    (w_tb_Keys_lst : PySem.W.kitOne K (.type "list") (.ref C_Keys) = some false)
    (w_tb_Keys_tup : PySem.W.kitOne K (.type "tuple") (.ref C_Keys) = some false)
    (w_tb_Keys_dct : PySem.W.kitOne K (.type "dict") (.ref C_Keys) = some false)
    (w_tb_Keys_obj4 : PySem.W.kitOne K (.ref C_Keys) (.ref C_Keys) = some true)
    (w_tb_Keys_exc0 : PySem.W.kitOne K (.ref C_NoName) (.ref C_Keys) = some false)
    (w_tb_Keys_exc5 : PySem.W.kitOne K (.ref C_NoPlace) (.ref C_Keys) = some false)
    (w_tb_Keys_exc1 : PySem.W.kitOne K (.ref C_BadField) (.ref C_Keys) = some false)
    (w_tb_Keys_exc2 : PySem.W.kitOne K (.ref C_BadLine) (.ref C_Keys) = some false)
    (w_tb_Keys_exc3 : PySem.W.kitOne K (.ref C_Ringed) (.ref C_Keys) = some false)
    (o1_Keys : PySem.W.findIn K (.ref C_Keys) "__class__" = some (some (.builtin "object.__class__")))
    (o4_Keys : PySem.W.mroIn K C_Keys (.type "object") = some true)
    (o1_NoName : PySem.W.findIn K (.ref C_NoName) "__class__" = some (some (.builtin "object.__class__")))
    (o4_NoName : PySem.W.mroIn K C_NoName (.type "object") = some true)
    (x1_NoPlace : PySem.W.findIn K (.ref C_NoPlace) "__getattribute__" = some (some (.builtin "BaseException.__getattribute__")))
    (x2_NoPlace : PySem.W.findIn K (.ref C_NoPlace) "__getattr__" = some none)
    (x3_NoPlace : PySem.W.subIn K (.ref C_NoPlace) (.type "BaseException") = some true)
    (x4_NoPlace : PySem.W.hasDictIn K C_NoPlace = true)
    (o1_NoPlace : PySem.W.findIn K (.ref C_NoPlace) "__class__" = some (some (.builtin "object.__class__")))
    (o4_NoPlace : PySem.W.mroIn K C_NoPlace (.type "object") = some true)
    (x1_BadField : PySem.W.findIn K (.ref C_BadField) "__getattribute__" = some (some (.builtin "BaseException.__getattribute__")))
    (x2_BadField : PySem.W.findIn K (.ref C_BadField) "__getattr__" = some none)
    (x3_BadField : PySem.W.subIn K (.ref C_BadField) (.type "BaseException") = some true)
    (x4_BadField : PySem.W.hasDictIn K C_BadField = true)
    (o1_BadField : PySem.W.findIn K (.ref C_BadField) "__class__" = some (some (.builtin "object.__class__")))
    (o4_BadField : PySem.W.mroIn K C_BadField (.type "object") = some true)
    (x1_BadLine : PySem.W.findIn K (.ref C_BadLine) "__getattribute__" = some (some (.builtin "BaseException.__getattribute__")))
    (x2_BadLine : PySem.W.findIn K (.ref C_BadLine) "__getattr__" = some none)
    (x3_BadLine : PySem.W.subIn K (.ref C_BadLine) (.type "BaseException") = some true)
    (x4_BadLine : PySem.W.hasDictIn K C_BadLine = true)
    (o1_BadLine : PySem.W.findIn K (.ref C_BadLine) "__class__" = some (some (.builtin "object.__class__")))
    (o4_BadLine : PySem.W.mroIn K C_BadLine (.type "object") = some true)
    (o1_Ringed : PySem.W.findIn K (.ref C_Ringed) "__class__" = some (some (.builtin "object.__class__")))
    (o4_Ringed : PySem.W.mroIn K C_Ringed (.type "object") = some true)
    (og : PySem.W.specialIn K (.builtin "object.__class__") "__get__" = some (some (.builtin "getset_descriptor.__get__")))
    (ot : PySem.W.takesIn K (.builtin "object.__class__") = some true)
    (z_isinstance : PySem.W.nsIn K mainGlobals "isinstance" = some none)
    (z_int : PySem.W.nsIn K mainGlobals "int" = some none)
    (w_tb_list_tuple_non : PySem.W.kitAny K (.type "NoneType") [.type "list", .type "tuple"] = some false)
    (w_tb_list_tuple_bl : PySem.W.kitAny K (.type "bool") [.type "list", .type "tuple"] = some false)
    (w_tb_list_tuple_int : PySem.W.kitAny K (.type "int") [.type "list", .type "tuple"] = some false)
    (w_tb_list_tuple_str : PySem.W.kitAny K (.type "str") [.type "list", .type "tuple"] = some false)
    (w_tb_list_tuple_lst : PySem.W.kitAny K (.type "list") [.type "list", .type "tuple"] = some true)
    (w_tb_list_tuple_tup : PySem.W.kitAny K (.type "tuple") [.type "list", .type "tuple"] = some true)
    (w_tb_list_tuple_dct : PySem.W.kitAny K (.type "dict") [.type "list", .type "tuple"] = some false)
    (w_tb_list_tuple_obj4 : PySem.W.kitAny K (.ref C_Keys) [.type "list", .type "tuple"] = some false)
    (w_tb_list_tuple_exc0 : PySem.W.kitAny K (.ref C_NoName) [.type "list", .type "tuple"] = some false)
    (w_tb_list_tuple_exc5 : PySem.W.kitAny K (.ref C_NoPlace) [.type "list", .type "tuple"] = some false)
    (w_tb_list_tuple_exc1 : PySem.W.kitAny K (.ref C_BadField) [.type "list", .type "tuple"] = some false)
    (w_tb_list_tuple_exc2 : PySem.W.kitAny K (.ref C_BadLine) [.type "list", .type "tuple"] = some false)
    (w_tb_list_tuple_exc3 : PySem.W.kitAny K (.ref C_Ringed) [.type "list", .type "tuple"] = some false)
    (w_tb_list_non : PySem.W.kitOne K (.type "NoneType") (.type "list") = some false)
    (w_tb_list_bl : PySem.W.kitOne K (.type "bool") (.type "list") = some false)
    (w_tb_list_int : PySem.W.kitOne K (.type "int") (.type "list") = some false)
    (w_tb_list_str : PySem.W.kitOne K (.type "str") (.type "list") = some false)
    (w_tb_list_lst : PySem.W.kitOne K (.type "list") (.type "list") = some true)
    (w_tb_list_tup : PySem.W.kitOne K (.type "tuple") (.type "list") = some false)
    (w_tb_list_dct : PySem.W.kitOne K (.type "dict") (.type "list") = some false)
    (w_tb_list_obj4 : PySem.W.kitOne K (.ref C_Keys) (.type "list") = some false)
    (w_tb_list_exc0 : PySem.W.kitOne K (.ref C_NoName) (.type "list") = some false)
    (w_tb_list_exc5 : PySem.W.kitOne K (.ref C_NoPlace) (.type "list") = some false)
    (w_tb_list_exc1 : PySem.W.kitOne K (.ref C_BadField) (.type "list") = some false)
    (w_tb_list_exc2 : PySem.W.kitOne K (.ref C_BadLine) (.type "list") = some false)
    (w_tb_list_exc3 : PySem.W.kitOne K (.ref C_Ringed) (.type "list") = some false)
    (w_tb_tuple_non : PySem.W.kitOne K (.type "NoneType") (.type "tuple") = some false)
    (w_tb_tuple_bl : PySem.W.kitOne K (.type "bool") (.type "tuple") = some false)
    (w_tb_tuple_int : PySem.W.kitOne K (.type "int") (.type "tuple") = some false)
    (w_tb_tuple_str : PySem.W.kitOne K (.type "str") (.type "tuple") = some false)
    (w_tb_tuple_lst : PySem.W.kitOne K (.type "list") (.type "tuple") = some false)
    (w_tb_tuple_tup : PySem.W.kitOne K (.type "tuple") (.type "tuple") = some true)
    (w_tb_tuple_dct : PySem.W.kitOne K (.type "dict") (.type "tuple") = some false)
    (w_tb_tuple_obj4 : PySem.W.kitOne K (.ref C_Keys) (.type "tuple") = some false)
    (w_tb_tuple_exc0 : PySem.W.kitOne K (.ref C_NoName) (.type "tuple") = some false)
    (w_tb_tuple_exc5 : PySem.W.kitOne K (.ref C_NoPlace) (.type "tuple") = some false)
    (w_tb_tuple_exc1 : PySem.W.kitOne K (.ref C_BadField) (.type "tuple") = some false)
    (w_tb_tuple_exc2 : PySem.W.kitOne K (.ref C_BadLine) (.type "tuple") = some false)
    (w_tb_tuple_exc3 : PySem.W.kitOne K (.ref C_Ringed) (.type "tuple") = some false)
    (z_zip : PySem.W.nsIn K mainGlobals "zip" = some none)
    (z_all : PySem.W.nsIn K mainGlobals "all" = some none)
    (z_str : PySem.W.nsIn K mainGlobals "str" = some none)
    (z_bool : PySem.W.nsIn K mainGlobals "bool" = some none)
    (w_tb_bool_str_non : PySem.W.kitAny K (.type "NoneType") [.type "bool", .type "str"] = some false)
    (w_tb_bool_str_bl : PySem.W.kitAny K (.type "bool") [.type "bool", .type "str"] = some true)
    (w_tb_bool_str_int : PySem.W.kitAny K (.type "int") [.type "bool", .type "str"] = some false)
    (w_tb_bool_str_str : PySem.W.kitAny K (.type "str") [.type "bool", .type "str"] = some true)
    (w_tb_bool_str_lst : PySem.W.kitAny K (.type "list") [.type "bool", .type "str"] = some false)
    (w_tb_bool_str_tup : PySem.W.kitAny K (.type "tuple") [.type "bool", .type "str"] = some false)
    (w_tb_bool_str_dct : PySem.W.kitAny K (.type "dict") [.type "bool", .type "str"] = some false)
    (w_tb_bool_str_obj4 : PySem.W.kitAny K (.ref C_Keys) [.type "bool", .type "str"] = some false)
    (w_tb_bool_str_exc0 : PySem.W.kitAny K (.ref C_NoName) [.type "bool", .type "str"] = some false)
    (w_tb_bool_str_exc5 : PySem.W.kitAny K (.ref C_NoPlace) [.type "bool", .type "str"] = some false)
    (w_tb_bool_str_exc1 : PySem.W.kitAny K (.ref C_BadField) [.type "bool", .type "str"] = some false)
    (w_tb_bool_str_exc2 : PySem.W.kitAny K (.ref C_BadLine) [.type "bool", .type "str"] = some false)
    (w_tb_bool_str_exc3 : PySem.W.kitAny K (.ref C_Ringed) [.type "bool", .type "str"] = some false)
    (w_tb_bool_non : PySem.W.kitOne K (.type "NoneType") (.type "bool") = some false)
    (w_tb_bool_bl : PySem.W.kitOne K (.type "bool") (.type "bool") = some true)
    (w_tb_bool_int : PySem.W.kitOne K (.type "int") (.type "bool") = some false)
    (w_tb_bool_str : PySem.W.kitOne K (.type "str") (.type "bool") = some false)
    (w_tb_bool_lst : PySem.W.kitOne K (.type "list") (.type "bool") = some false)
    (w_tb_bool_tup : PySem.W.kitOne K (.type "tuple") (.type "bool") = some false)
    (w_tb_bool_dct : PySem.W.kitOne K (.type "dict") (.type "bool") = some false)
    (w_tb_bool_obj4 : PySem.W.kitOne K (.ref C_Keys) (.type "bool") = some false)
    (w_tb_bool_exc0 : PySem.W.kitOne K (.ref C_NoName) (.type "bool") = some false)
    (w_tb_bool_exc5 : PySem.W.kitOne K (.ref C_NoPlace) (.type "bool") = some false)
    (w_tb_bool_exc1 : PySem.W.kitOne K (.ref C_BadField) (.type "bool") = some false)
    (w_tb_bool_exc2 : PySem.W.kitOne K (.ref C_BadLine) (.type "bool") = some false)
    (w_tb_bool_exc3 : PySem.W.kitOne K (.ref C_Ringed) (.type "bool") = some false)
    (w_tb_int_non : PySem.W.kitOne K (.type "NoneType") (.type "int") = some false)
    (w_tb_int_bl : PySem.W.kitOne K (.type "bool") (.type "int") = some true)
    (w_tb_int_int : PySem.W.kitOne K (.type "int") (.type "int") = some true)
    (w_tb_int_str : PySem.W.kitOne K (.type "str") (.type "int") = some false)
    (w_tb_int_lst : PySem.W.kitOne K (.type "list") (.type "int") = some false)
    (w_tb_int_tup : PySem.W.kitOne K (.type "tuple") (.type "int") = some false)
    (w_tb_int_dct : PySem.W.kitOne K (.type "dict") (.type "int") = some false)
    (w_tb_int_obj4 : PySem.W.kitOne K (.ref C_Keys) (.type "int") = some false)
    (w_tb_int_exc0 : PySem.W.kitOne K (.ref C_NoName) (.type "int") = some false)
    (w_tb_int_exc5 : PySem.W.kitOne K (.ref C_NoPlace) (.type "int") = some false)
    (w_tb_int_exc1 : PySem.W.kitOne K (.ref C_BadField) (.type "int") = some false)
    (w_tb_int_exc2 : PySem.W.kitOne K (.ref C_BadLine) (.type "int") = some false)
    (w_tb_int_exc3 : PySem.W.kitOne K (.ref C_Ringed) (.type "int") = some false)
    (z_range : PySem.W.nsIn K mainGlobals "range" = some none)
    (z_enumerate : PySem.W.nsIn K mainGlobals "enumerate" = some none)
    (z_dict : PySem.W.nsIn K mainGlobals "dict" = some none)
    (v_tst_BadField_NoName_NoPlace_Ringed_NoName : PySem.W.exmAny K (.ref C_NoName) [.ref C_BadField, .ref C_NoName, .ref C_NoPlace, .ref C_Ringed] = some true)
    (v_tst_BadField_NoName_NoPlace_Ringed_NoPlace : PySem.W.exmAny K (.ref C_NoPlace) [.ref C_BadField, .ref C_NoName, .ref C_NoPlace, .ref C_Ringed] = some true)
    (v_tst_BadField_NoName_NoPlace_Ringed_BadField : PySem.W.exmAny K (.ref C_BadField) [.ref C_BadField, .ref C_NoName, .ref C_NoPlace, .ref C_Ringed] = some true)
    (v_tst_BadField_NoName_NoPlace_Ringed_BadLine : PySem.W.exmAny K (.ref C_BadLine) [.ref C_BadField, .ref C_NoName, .ref C_NoPlace, .ref C_Ringed] = some false)
    (v_tst_BadField_NoName_NoPlace_Ringed_Ringed : PySem.W.exmAny K (.ref C_Ringed) [.ref C_BadField, .ref C_NoName, .ref C_NoPlace, .ref C_Ringed] = some true)
    (w_tb_NoName_non : PySem.W.kitOne K (.type "NoneType") (.ref C_NoName) = some false)
    (w_tb_NoName_bl : PySem.W.kitOne K (.type "bool") (.ref C_NoName) = some false)
    (w_tb_NoName_int : PySem.W.kitOne K (.type "int") (.ref C_NoName) = some false)
    (w_tb_NoName_str : PySem.W.kitOne K (.type "str") (.ref C_NoName) = some false)
    (w_tb_NoName_lst : PySem.W.kitOne K (.type "list") (.ref C_NoName) = some false)
    (w_tb_NoName_tup : PySem.W.kitOne K (.type "tuple") (.ref C_NoName) = some false)
    (w_tb_NoName_dct : PySem.W.kitOne K (.type "dict") (.ref C_NoName) = some false)
    (w_tb_NoName_obj4 : PySem.W.kitOne K (.ref C_Keys) (.ref C_NoName) = some false)
    (w_tb_NoName_exc0 : PySem.W.kitOne K (.ref C_NoName) (.ref C_NoName) = some true)
    (w_tb_NoName_exc5 : PySem.W.kitOne K (.ref C_NoPlace) (.ref C_NoName) = some false)
    (w_tb_NoName_exc1 : PySem.W.kitOne K (.ref C_BadField) (.ref C_NoName) = some false)
    (w_tb_NoName_exc2 : PySem.W.kitOne K (.ref C_BadLine) (.ref C_NoName) = some false)
    (w_tb_NoName_exc3 : PySem.W.kitOne K (.ref C_Ringed) (.ref C_NoName) = some false)
    (z_LookupError : PySem.W.nsIn K mainGlobals "LookupError" = some none)
    (w_tb_LookupError_non : PySem.W.kitOne K (.type "NoneType") (.type "LookupError") = some false)
    (w_tb_LookupError_bl : PySem.W.kitOne K (.type "bool") (.type "LookupError") = some false)
    (w_tb_LookupError_int : PySem.W.kitOne K (.type "int") (.type "LookupError") = some false)
    (w_tb_LookupError_str : PySem.W.kitOne K (.type "str") (.type "LookupError") = some false)
    (w_tb_LookupError_lst : PySem.W.kitOne K (.type "list") (.type "LookupError") = some false)
    (w_tb_LookupError_tup : PySem.W.kitOne K (.type "tuple") (.type "LookupError") = some false)
    (w_tb_LookupError_dct : PySem.W.kitOne K (.type "dict") (.type "LookupError") = some false)
    (w_tb_LookupError_obj4 : PySem.W.kitOne K (.ref C_Keys) (.type "LookupError") = some false)
    (w_tb_LookupError_exc0 : PySem.W.kitOne K (.ref C_NoName) (.type "LookupError") = some true)
    (w_tb_LookupError_exc5 : PySem.W.kitOne K (.ref C_NoPlace) (.type "LookupError") = some true)
    (w_tb_LookupError_exc1 : PySem.W.kitOne K (.ref C_BadField) (.type "LookupError") = some false)
    (w_tb_LookupError_exc2 : PySem.W.kitOne K (.ref C_BadLine) (.type "LookupError") = some false)
    (w_tb_LookupError_exc3 : PySem.W.kitOne K (.ref C_Ringed) (.type "LookupError") = some false)
    (v0_Keys_D_initD_ : K.lookup e0_Keys_D_initD_ = some ⟨.type "tuple", vd0_Keys_D_initD_, .seq #[] vn0_Keys_D_initD_, vs0_Keys_D_initD_⟩)
    (nfst_Keys_D_eqD_ : PySem.W.notFirst K C_Keys (.ref C_Keys) = true)
    (nfst_Keys_D_eqD__non : PySem.W.notFirst K C_Keys (.type "NoneType") = true)
    (nfst_Keys_D_eqD__bl : PySem.W.notFirst K C_Keys (.type "bool") = true)
    (nfst_Keys_D_eqD__int : PySem.W.notFirst K C_Keys (.type "int") = true)
    (nfst_Keys_D_eqD__str : PySem.W.notFirst K C_Keys (.type "str") = true)
    (nfst_Keys_D_eqD__lst : PySem.W.notFirst K C_Keys (.type "list") = true)
    (nfst_Keys_D_eqD__tup : PySem.W.notFirst K C_Keys (.type "tuple") = true)
    (nfst_Keys_D_eqD__dct : PySem.W.notFirst K C_Keys (.type "dict") = true)
    (nee_Keys : PySem.W.findIn K (.ref C_Keys) "__ne__" = some (some (.builtin "object.__ne__")))
    (z_abs : PySem.W.nsIn K mainGlobals "abs" = some none) :
    ∃ A : Ad, Tx P K mg A ∧ A.f_law = fa ∧ ∀ (s : Shared) (v : Value), BindsTo s A.d_law ⟨[v], []⟩ [("_law_script", v)] := by
  have e := hfa.symm.trans (PySem.W.mg_of X G a_law)
  have e2 : f_law = fa := by cases e; rfl
  subst e2
  have HF_reached : L2.FunD K "reached" "reached" (defArgs s_reached) (defBody s_reached) (defScope s_reached) [] [] f_reached (PySem.W.fnOf "reached" "reached" (defArgs s_reached) (defBody s_reached) (defScope s_reached) .none kV_reached doc_reached pm_reached an_reached cd_reached ty_reached) := ⟨⟨_, _, _, _, _, _, _, _, _, _, rfl, l_reached, c_reached, .inl ⟨rfl, rfl⟩, .inl rfl⟩, k_reached⟩
  have HF_check_name : L2.FunD K "check_name" "check_name" (defArgs s_check_name) (defBody s_check_name) (defScope s_check_name) [] [] f_check_name (PySem.W.fnOf "check_name" "check_name" (defArgs s_check_name) (defBody s_check_name) (defScope s_check_name) .none kV_check_name doc_check_name pm_check_name an_check_name cd_check_name ty_check_name) := ⟨⟨_, _, _, _, _, _, _, _, _, _, rfl, l_check_name, c_check_name, .inl ⟨rfl, rfl⟩, .inl rfl⟩, k_check_name⟩
  have HF_Keys_D_initD_ : L2.FunD K "__init__" "Keys.__init__" (defArgs s_Keys_D_initD_) (defBody s_Keys_D_initD_) (defScope s_Keys_D_initD_) [.ref e0_Keys_D_initD_] [] f_Keys_D_initD_ (PySem.W.fnOf "__init__" "Keys.__init__" (defArgs s_Keys_D_initD_) (defBody s_Keys_D_initD_) (defScope s_Keys_D_initD_) (.ref T_Keys_D_initD_) kV_Keys_D_initD_ doc_Keys_D_initD_ pm_Keys_D_initD_ an_Keys_D_initD_ cd_Keys_D_initD_ ty_Keys_D_initD_) := ⟨⟨_, _, _, _, _, _, _, _, _, _, rfl, l_Keys_D_initD_, c_Keys_D_initD_, .inr ⟨(by simp), T_Keys_D_initD_, _, [.ref e0_Keys_D_initD_], tn_Keys_D_initD_, rfl, t_Keys_D_initD_, rfl, .cons rfl (.nil)⟩, .inl rfl⟩, k_Keys_D_initD_⟩
  have HF_Keys_names : L2.FunD K "names" "Keys.names" (defArgs s_Keys_names) (defBody s_Keys_names) (defScope s_Keys_names) [] [] f_Keys_names (PySem.W.fnOf "names" "Keys.names" (defArgs s_Keys_names) (defBody s_Keys_names) (defScope s_Keys_names) .none kV_Keys_names doc_Keys_names pm_Keys_names an_Keys_names cd_Keys_names ty_Keys_names) := ⟨⟨_, _, _, _, _, _, _, _, _, _, rfl, l_Keys_names, c_Keys_names, .inl ⟨rfl, rfl⟩, .inl rfl⟩, k_Keys_names⟩
  have HF_Keys_pairs : L2.FunD K "pairs" "Keys.pairs" (defArgs s_Keys_pairs) (defBody s_Keys_pairs) (defScope s_Keys_pairs) [] [] f_Keys_pairs (PySem.W.fnOf "pairs" "Keys.pairs" (defArgs s_Keys_pairs) (defBody s_Keys_pairs) (defScope s_Keys_pairs) .none kV_Keys_pairs doc_Keys_pairs pm_Keys_pairs an_Keys_pairs cd_Keys_pairs ty_Keys_pairs) := ⟨⟨_, _, _, _, _, _, _, _, _, _, rfl, l_Keys_pairs, c_Keys_pairs, .inl ⟨rfl, rfl⟩, .inl rfl⟩, k_Keys_pairs⟩
  have HF_Keys_told : L2.FunD K "told" "Keys.told" (defArgs s_Keys_told) (defBody s_Keys_told) (defScope s_Keys_told) [] [] f_Keys_told (PySem.W.fnOf "told" "Keys.told" (defArgs s_Keys_told) (defBody s_Keys_told) (defScope s_Keys_told) .none kV_Keys_told doc_Keys_told pm_Keys_told an_Keys_told cd_Keys_told ty_Keys_told) := ⟨⟨_, _, _, _, _, _, _, _, _, _, rfl, l_Keys_told, c_Keys_told, .inl ⟨rfl, rfl⟩, .inl rfl⟩, k_Keys_told⟩
  have HF_Keys_tells : L2.FunD K "tells" "Keys.tells" (defArgs s_Keys_tells) (defBody s_Keys_tells) (defScope s_Keys_tells) [] [] f_Keys_tells (PySem.W.fnOf "tells" "Keys.tells" (defArgs s_Keys_tells) (defBody s_Keys_tells) (defScope s_Keys_tells) .none kV_Keys_tells doc_Keys_tells pm_Keys_tells an_Keys_tells cd_Keys_tells ty_Keys_tells) := ⟨⟨_, _, _, _, _, _, _, _, _, _, rfl, l_Keys_tells, c_Keys_tells, .inl ⟨rfl, rfl⟩, .inl rfl⟩, k_Keys_tells⟩
  have HF_Keys_D_containsD_ : L2.FunD K "__contains__" "Keys.__contains__" (defArgs s_Keys_D_containsD_) (defBody s_Keys_D_containsD_) (defScope s_Keys_D_containsD_) [] [] f_Keys_D_containsD_ (PySem.W.fnOf "__contains__" "Keys.__contains__" (defArgs s_Keys_D_containsD_) (defBody s_Keys_D_containsD_) (defScope s_Keys_D_containsD_) .none kV_Keys_D_containsD_ doc_Keys_D_containsD_ pm_Keys_D_containsD_ an_Keys_D_containsD_ cd_Keys_D_containsD_ ty_Keys_D_containsD_) := ⟨⟨_, _, _, _, _, _, _, _, _, _, rfl, l_Keys_D_containsD_, c_Keys_D_containsD_, .inl ⟨rfl, rfl⟩, .inl rfl⟩, k_Keys_D_containsD_⟩
  have HF_Keys_D_lenD_ : L2.FunD K "__len__" "Keys.__len__" (defArgs s_Keys_D_lenD_) (defBody s_Keys_D_lenD_) (defScope s_Keys_D_lenD_) [] [] f_Keys_D_lenD_ (PySem.W.fnOf "__len__" "Keys.__len__" (defArgs s_Keys_D_lenD_) (defBody s_Keys_D_lenD_) (defScope s_Keys_D_lenD_) .none kV_Keys_D_lenD_ doc_Keys_D_lenD_ pm_Keys_D_lenD_ an_Keys_D_lenD_ cd_Keys_D_lenD_ ty_Keys_D_lenD_) := ⟨⟨_, _, _, _, _, _, _, _, _, _, rfl, l_Keys_D_lenD_, c_Keys_D_lenD_, .inl ⟨rfl, rfl⟩, .inl rfl⟩, k_Keys_D_lenD_⟩
  have HF_Keys_D_eqD_ : L2.FunD K "__eq__" "Keys.__eq__" (defArgs s_Keys_D_eqD_) (defBody s_Keys_D_eqD_) (defScope s_Keys_D_eqD_) [] [] f_Keys_D_eqD_ (PySem.W.fnOf "__eq__" "Keys.__eq__" (defArgs s_Keys_D_eqD_) (defBody s_Keys_D_eqD_) (defScope s_Keys_D_eqD_) .none kV_Keys_D_eqD_ doc_Keys_D_eqD_ pm_Keys_D_eqD_ an_Keys_D_eqD_ cd_Keys_D_eqD_ ty_Keys_D_eqD_) := ⟨⟨_, _, _, _, _, _, _, _, _, _, rfl, l_Keys_D_eqD_, c_Keys_D_eqD_, .inl ⟨rfl, rfl⟩, .inl rfl⟩, k_Keys_D_eqD_⟩
  have HF__law_box : L2.FunD K "_law_box" "_law_box" (defArgs s__law_box) (defBody s__law_box) (defScope s__law_box) [] [] f__law_box (PySem.W.fnOf "_law_box" "_law_box" (defArgs s__law_box) (defBody s__law_box) (defScope s__law_box) .none kV__law_box doc__law_box pm__law_box an__law_box cd__law_box ty__law_box) := ⟨⟨_, _, _, _, _, _, _, _, _, _, rfl, l__law_box, c__law_box, .inl ⟨rfl, rfl⟩, .inl rfl⟩, k__law_box⟩
  have HF__law_take : L2.FunD K "_law_take" "_law_take" (defArgs s__law_take) (defBody s__law_take) (defScope s__law_take) [] [] f__law_take (PySem.W.fnOf "_law_take" "_law_take" (defArgs s__law_take) (defBody s__law_take) (defScope s__law_take) .none kV__law_take doc__law_take pm__law_take an__law_take cd__law_take ty__law_take) := ⟨⟨_, _, _, _, _, _, _, _, _, _, rfl, l__law_take, c__law_take, .inl ⟨rfl, rfl⟩, .inl rfl⟩, k__law_take⟩
  have HF__law_cells : L2.FunD K "_law_cells" "_law_cells" (defArgs s__law_cells) (defBody s__law_cells) (defScope s__law_cells) [] [] f__law_cells (PySem.W.fnOf "_law_cells" "_law_cells" (defArgs s__law_cells) (defBody s__law_cells) (defScope s__law_cells) .none kV__law_cells doc__law_cells pm__law_cells an__law_cells cd__law_cells ty__law_cells) := ⟨⟨_, _, _, _, _, _, _, _, _, _, rfl, l__law_cells, c__law_cells, .inl ⟨rfl, rfl⟩, .inl rfl⟩, k__law_cells⟩
  have HF__law_lists : L2.FunD K "_law_lists" "_law_lists" (defArgs s__law_lists) (defBody s__law_lists) (defScope s__law_lists) [] [] f__law_lists (PySem.W.fnOf "_law_lists" "_law_lists" (defArgs s__law_lists) (defBody s__law_lists) (defScope s__law_lists) .none kV__law_lists doc__law_lists pm__law_lists an__law_lists cd__law_lists ty__law_lists) := ⟨⟨_, _, _, _, _, _, _, _, _, _, rfl, l__law_lists, c__law_lists, .inl ⟨rfl, rfl⟩, .inl rfl⟩, k__law_lists⟩
  have HF__law_same : L2.FunD K "_law_same" "_law_same" (defArgs s__law_same) (defBody s__law_same) (defScope s__law_same) [] [] f__law_same (PySem.W.fnOf "_law_same" "_law_same" (defArgs s__law_same) (defBody s__law_same) (defScope s__law_same) .none kV__law_same doc__law_same pm__law_same an__law_same cd__law_same ty__law_same) := ⟨⟨_, _, _, _, _, _, _, _, _, _, rfl, l__law_same, c__law_same, .inl ⟨rfl, rfl⟩, .inl rfl⟩, k__law_same⟩
  have HF__law_few : L2.FunD K "_law_few" "_law_few" (defArgs s__law_few) (defBody s__law_few) (defScope s__law_few) [] [] f__law_few (PySem.W.fnOf "_law_few" "_law_few" (defArgs s__law_few) (defBody s__law_few) (defScope s__law_few) .none kV__law_few doc__law_few pm__law_few an__law_few cd__law_few ty__law_few) := ⟨⟨_, _, _, _, _, _, _, _, _, _, rfl, l__law_few, c__law_few, .inl ⟨rfl, rfl⟩, .inl rfl⟩, k__law_few⟩
  have HF__law_mixed : L2.FunD K "_law_mixed" "_law_mixed" (defArgs s__law_mixed) (defBody s__law_mixed) (defScope s__law_mixed) [] [] f__law_mixed (PySem.W.fnOf "_law_mixed" "_law_mixed" (defArgs s__law_mixed) (defBody s__law_mixed) (defScope s__law_mixed) .none kV__law_mixed doc__law_mixed pm__law_mixed an__law_mixed cd__law_mixed ty__law_mixed) := ⟨⟨_, _, _, _, _, _, _, _, _, _, rfl, l__law_mixed, c__law_mixed, .inl ⟨rfl, rfl⟩, .inl rfl⟩, k__law_mixed⟩
  have HF__law_book : L2.FunD K "_law_book" "_law_book" (defArgs s__law_book) (defBody s__law_book) (defScope s__law_book) [] [] f__law_book (PySem.W.fnOf "_law_book" "_law_book" (defArgs s__law_book) (defBody s__law_book) (defScope s__law_book) .none kV__law_book doc__law_book pm__law_book an__law_book cd__law_book ty__law_book) := ⟨⟨_, _, _, _, _, _, _, _, _, _, rfl, l__law_book, c__law_book, .inl ⟨rfl, rfl⟩, .inl rfl⟩, k__law_book⟩
  have HF__law_told : L2.FunD K "_law_told" "_law_told" (defArgs s__law_told) (defBody s__law_told) (defScope s__law_told) [] [] f__law_told (PySem.W.fnOf "_law_told" "_law_told" (defArgs s__law_told) (defBody s__law_told) (defScope s__law_told) .none kV__law_told doc__law_told pm__law_told an__law_told cd__law_told ty__law_told) := ⟨⟨_, _, _, _, _, _, _, _, _, _, rfl, l__law_told, c__law_told, .inl ⟨rfl, rfl⟩, .inl rfl⟩, k__law_told⟩
  have HF__law_heard : L2.FunD K "_law_heard" "_law_heard" (defArgs s__law_heard) (defBody s__law_heard) (defScope s__law_heard) [] [] f__law_heard (PySem.W.fnOf "_law_heard" "_law_heard" (defArgs s__law_heard) (defBody s__law_heard) (defScope s__law_heard) .none kV__law_heard doc__law_heard pm__law_heard an__law_heard cd__law_heard ty__law_heard) := ⟨⟨_, _, _, _, _, _, _, _, _, _, rfl, l__law_heard, c__law_heard, .inl ⟨rfl, rfl⟩, .inl rfl⟩, k__law_heard⟩
  have HF__law_by_hand_right : L2.FunD K "_law_by_hand_right" "_law_by_hand_right" (defArgs s__law_by_hand_right) (defBody s__law_by_hand_right) (defScope s__law_by_hand_right) [] [] f__law_by_hand_right (PySem.W.fnOf "_law_by_hand_right" "_law_by_hand_right" (defArgs s__law_by_hand_right) (defBody s__law_by_hand_right) (defScope s__law_by_hand_right) .none kV__law_by_hand_right doc__law_by_hand_right pm__law_by_hand_right an__law_by_hand_right cd__law_by_hand_right ty__law_by_hand_right) := ⟨⟨_, _, _, _, _, _, _, _, _, _, rfl, l__law_by_hand_right, c__law_by_hand_right, .inl ⟨rfl, rfl⟩, .inl rfl⟩, k__law_by_hand_right⟩
  have HF__law_right : L2.FunD K "_law_right" "_law_right" (defArgs s__law_right) (defBody s__law_right) (defScope s__law_right) [] [] f__law_right (PySem.W.fnOf "_law_right" "_law_right" (defArgs s__law_right) (defBody s__law_right) (defScope s__law_right) .none kV__law_right doc__law_right pm__law_right an__law_right cd__law_right ty__law_right) := ⟨⟨_, _, _, _, _, _, _, _, _, _, rfl, l__law_right, c__law_right, .inl ⟨rfl, rfl⟩, .inl rfl⟩, k__law_right⟩
  have HF_law : L2.FunD K "law" "law" (defArgs s_law) (defBody s_law) (defScope s_law) [] [] f_law (PySem.W.fnOf "law" "law" (defArgs s_law) (defBody s_law) (defScope s_law) .none kV_law doc_law pm_law an_law cd_law ty_law) := ⟨⟨_, _, _, _, _, _, _, _, _, _, rfl, l_law, c_law, .inl ⟨rfl, rfl⟩, .inl rfl⟩, k_law⟩
  refine ⟨{ C_NoName := C_NoName, C_NoPlace := C_NoPlace, C_BadField := C_BadField, C_BadLine := C_BadLine, C_Ringed := C_Ringed, C_Keys := C_Keys, f_reached := f_reached, d_reached := (PySem.W.fnOf "reached" "reached" (defArgs s_reached) (defBody s_reached) (defScope s_reached) .none kV_reached doc_reached pm_reached an_reached cd_reached ty_reached), f_check_name := f_check_name, d_check_name := (PySem.W.fnOf "check_name" "check_name" (defArgs s_check_name) (defBody s_check_name) (defScope s_check_name) .none kV_check_name doc_check_name pm_check_name an_check_name cd_check_name ty_check_name), f_Keys_D_initD_ := f_Keys_D_initD_, e0_Keys_D_initD_ := e0_Keys_D_initD_, d_Keys_D_initD_ := (PySem.W.fnOf "__init__" "Keys.__init__" (defArgs s_Keys_D_initD_) (defBody s_Keys_D_initD_) (defScope s_Keys_D_initD_) (.ref T_Keys_D_initD_) kV_Keys_D_initD_ doc_Keys_D_initD_ pm_Keys_D_initD_ an_Keys_D_initD_ cd_Keys_D_initD_ ty_Keys_D_initD_), f_Keys_names := f_Keys_names, p_Keys_names := p_Keys_names, d_Keys_names := (PySem.W.fnOf "names" "Keys.names" (defArgs s_Keys_names) (defBody s_Keys_names) (defScope s_Keys_names) .none kV_Keys_names doc_Keys_names pm_Keys_names an_Keys_names cd_Keys_names ty_Keys_names), f_Keys_pairs := f_Keys_pairs, p_Keys_pairs := p_Keys_pairs, d_Keys_pairs := (PySem.W.fnOf "pairs" "Keys.pairs" (defArgs s_Keys_pairs) (defBody s_Keys_pairs) (defScope s_Keys_pairs) .none kV_Keys_pairs doc_Keys_pairs pm_Keys_pairs an_Keys_pairs cd_Keys_pairs ty_Keys_pairs), f_Keys_told := f_Keys_told, d_Keys_told := (PySem.W.fnOf "told" "Keys.told" (defArgs s_Keys_told) (defBody s_Keys_told) (defScope s_Keys_told) .none kV_Keys_told doc_Keys_told pm_Keys_told an_Keys_told cd_Keys_told ty_Keys_told), f_Keys_tells := f_Keys_tells, d_Keys_tells := (PySem.W.fnOf "tells" "Keys.tells" (defArgs s_Keys_tells) (defBody s_Keys_tells) (defScope s_Keys_tells) .none kV_Keys_tells doc_Keys_tells pm_Keys_tells an_Keys_tells cd_Keys_tells ty_Keys_tells), f_Keys_D_containsD_ := f_Keys_D_containsD_, d_Keys_D_containsD_ := (PySem.W.fnOf "__contains__" "Keys.__contains__" (defArgs s_Keys_D_containsD_) (defBody s_Keys_D_containsD_) (defScope s_Keys_D_containsD_) .none kV_Keys_D_containsD_ doc_Keys_D_containsD_ pm_Keys_D_containsD_ an_Keys_D_containsD_ cd_Keys_D_containsD_ ty_Keys_D_containsD_), f_Keys_D_lenD_ := f_Keys_D_lenD_, d_Keys_D_lenD_ := (PySem.W.fnOf "__len__" "Keys.__len__" (defArgs s_Keys_D_lenD_) (defBody s_Keys_D_lenD_) (defScope s_Keys_D_lenD_) .none kV_Keys_D_lenD_ doc_Keys_D_lenD_ pm_Keys_D_lenD_ an_Keys_D_lenD_ cd_Keys_D_lenD_ ty_Keys_D_lenD_), f_Keys_D_eqD_ := f_Keys_D_eqD_, d_Keys_D_eqD_ := (PySem.W.fnOf "__eq__" "Keys.__eq__" (defArgs s_Keys_D_eqD_) (defBody s_Keys_D_eqD_) (defScope s_Keys_D_eqD_) .none kV_Keys_D_eqD_ doc_Keys_D_eqD_ pm_Keys_D_eqD_ an_Keys_D_eqD_ cd_Keys_D_eqD_ ty_Keys_D_eqD_), f__law_box := f__law_box, d__law_box := (PySem.W.fnOf "_law_box" "_law_box" (defArgs s__law_box) (defBody s__law_box) (defScope s__law_box) .none kV__law_box doc__law_box pm__law_box an__law_box cd__law_box ty__law_box), f__law_take := f__law_take, d__law_take := (PySem.W.fnOf "_law_take" "_law_take" (defArgs s__law_take) (defBody s__law_take) (defScope s__law_take) .none kV__law_take doc__law_take pm__law_take an__law_take cd__law_take ty__law_take), f__law_cells := f__law_cells, d__law_cells := (PySem.W.fnOf "_law_cells" "_law_cells" (defArgs s__law_cells) (defBody s__law_cells) (defScope s__law_cells) .none kV__law_cells doc__law_cells pm__law_cells an__law_cells cd__law_cells ty__law_cells), f__law_lists := f__law_lists, d__law_lists := (PySem.W.fnOf "_law_lists" "_law_lists" (defArgs s__law_lists) (defBody s__law_lists) (defScope s__law_lists) .none kV__law_lists doc__law_lists pm__law_lists an__law_lists cd__law_lists ty__law_lists), f__law_same := f__law_same, d__law_same := (PySem.W.fnOf "_law_same" "_law_same" (defArgs s__law_same) (defBody s__law_same) (defScope s__law_same) .none kV__law_same doc__law_same pm__law_same an__law_same cd__law_same ty__law_same), f__law_few := f__law_few, d__law_few := (PySem.W.fnOf "_law_few" "_law_few" (defArgs s__law_few) (defBody s__law_few) (defScope s__law_few) .none kV__law_few doc__law_few pm__law_few an__law_few cd__law_few ty__law_few), f__law_mixed := f__law_mixed, d__law_mixed := (PySem.W.fnOf "_law_mixed" "_law_mixed" (defArgs s__law_mixed) (defBody s__law_mixed) (defScope s__law_mixed) .none kV__law_mixed doc__law_mixed pm__law_mixed an__law_mixed cd__law_mixed ty__law_mixed), f__law_book := f__law_book, d__law_book := (PySem.W.fnOf "_law_book" "_law_book" (defArgs s__law_book) (defBody s__law_book) (defScope s__law_book) .none kV__law_book doc__law_book pm__law_book an__law_book cd__law_book ty__law_book), f__law_told := f__law_told, d__law_told := (PySem.W.fnOf "_law_told" "_law_told" (defArgs s__law_told) (defBody s__law_told) (defScope s__law_told) .none kV__law_told doc__law_told pm__law_told an__law_told cd__law_told ty__law_told), f__law_heard := f__law_heard, d__law_heard := (PySem.W.fnOf "_law_heard" "_law_heard" (defArgs s__law_heard) (defBody s__law_heard) (defScope s__law_heard) .none kV__law_heard doc__law_heard pm__law_heard an__law_heard cd__law_heard ty__law_heard), f__law_by_hand_right := f__law_by_hand_right, d__law_by_hand_right := (PySem.W.fnOf "_law_by_hand_right" "_law_by_hand_right" (defArgs s__law_by_hand_right) (defBody s__law_by_hand_right) (defScope s__law_by_hand_right) .none kV__law_by_hand_right doc__law_by_hand_right pm__law_by_hand_right an__law_by_hand_right cd__law_by_hand_right ty__law_by_hand_right), f__law_right := f__law_right, d__law_right := (PySem.W.fnOf "_law_right" "_law_right" (defArgs s__law_right) (defBody s__law_right) (defScope s__law_right) .none kV__law_right doc__law_right pm__law_right an__law_right cd__law_right ty__law_right), f_law := f_law, d_law := (PySem.W.fnOf "law" "law" (defArgs s_law) (defBody s_law) (defScope s_law) .none kV_law doc_law pm_law an_law cd_law ty_law), i_NoName := i_NoName, cc_NoName := cc_NoName, cda_NoName := cda_NoName, i_Ringed := i_Ringed, cc_Ringed := cc_Ringed, cda_Ringed := cda_Ringed }, ?_, rfl, fun s v => HF_law.bindsA (ps := ["_law_script"]) (fun _ _ _ _ _ _ us hl => match us, hl with | [_], _ => rfl) s [v] rfl⟩
  exact
  { n_list := PySem.W.mg_none_of X G z_list
    n_len := PySem.W.mg_none_of X G z_len
    n_sorted := PySem.W.mg_none_of X G z_sorted
    n_set := PySem.W.mg_none_of X G z_set
    n_tuple := PySem.W.mg_none_of X G z_tuple
    g_NUMBER := ⟨_, PySem.W.mg_of X G y_NUMBER⟩
    x_NoName := ⟨PySem.F.excBase_LookupError, PySem.W.kxs_LookupError, PySem.F.store_LookupError, e1_NoName, e2_NoName, x4_NoName, e3_NoName, e4_NoName, e5_NoName, x3_NoName, e6_NoName, e7_NoName, nf_NoName_name, ⟨_, _, _, _, _, _, _, _, _, e8_NoName, fun _ _ => rfl⟩, e9_NoName, ⟨_, _, _, _, _, _, e10_NoName, e11_NoName, e12_NoName⟩, ⟨_, _, _, e13_NoName⟩, e14_NoName, e15_NoName, e16_NoName, oq, tsup⟩
    m_NoName := PySem.W.mg_of X G ac_NoName
    n_super := PySem.W.mg_none_of X G z_super
    fl_own_names := (fun c hc => by
      simp only [List.mem_cons, List.not_mem_nil, or_false] at hc
      subst hc
      · exact ⟨⟨q1_Keys, q2_Keys, q3_Keys, q4_Keys⟩, nf_Keys_own_names⟩)
    fl_own_told := (fun c hc => by
      simp only [List.mem_cons, List.not_mem_nil, or_false] at hc
      subst hc
      · exact ⟨⟨q1_Keys, q2_Keys, q3_Keys, q4_Keys⟩, nf_Keys_own_told⟩)
    m_reached := PySem.W.mg_of X G a_reached
    F_reached := HF_reached
    b_reached := HF_reached.bindsN (fun _ _ _ _ _ _ us hl => match us, hl with | [_, _], _ => rfl)
    x_Ringed := ⟨PySem.F.excBase_ValueError, PySem.W.kxs_ValueError, PySem.F.store_ValueError, e1_Ringed, e2_Ringed, x4_Ringed, e3_Ringed, e4_Ringed, e5_Ringed, x3_Ringed, e6_Ringed, e7_Ringed, nf_Ringed_ring, ⟨_, _, _, _, _, _, _, _, _, e8_Ringed, fun _ _ => rfl⟩, e9_Ringed, ⟨_, _, _, _, _, _, e10_Ringed, e11_Ringed, e12_Ringed⟩, ⟨_, _, _, e13_Ringed⟩, e14_Ringed, e15_Ringed, e16_Ringed, oq, tsup⟩
    m_Ringed := PySem.W.mg_of X G ac_Ringed
    m_check_name := PySem.W.mg_of X G a_check_name
    F_check_name := HF_check_name
    b_check_name := HF_check_name.bindsN (fun _ _ _ _ _ _ us hl => match us, hl with | [_, _], _ => rfl)
    m_Keys := PySem.W.mg_of X G ac_Keys
    is_tb_Keys := (by
      refine ⟨fun ty b h => ?_, fun c b h => ?_, fun c b h => ?_⟩
      · unfold tb_Keys at h
        split at h
        · cases h; exact w_tb_Keys_non
        · cases h; exact w_tb_Keys_bl
        · cases h; exact w_tb_Keys_int
        · cases h; exact w_tb_Keys_str
        · cases h; exact w_tb_Keys_lst
        · cases h; exact w_tb_Keys_tup
        · cases h; exact w_tb_Keys_dct
        · cases h; exact w_tb_Keys_obj4
        · cases h; exact w_tb_Keys_exc0
        · cases h; exact w_tb_Keys_exc5
        · cases h; exact w_tb_Keys_exc1
        · cases h; exact w_tb_Keys_exc2
        · cases h; exact w_tb_Keys_exc3
        · cases h
      · unfold tb_Keys at h
        split at h <;> first | (rename_i e; cases e; done) | cases h | skip
        · rename_i e; cases e; exact ⟨⟨q1_Keys, q2_Keys, q3_Keys, q4_Keys⟩, o1_Keys, og, ot, o4_Keys⟩
      · unfold tb_Keys at h
        split at h <;> first | (rename_i e; cases e; done) | cases h | skip
        · rename_i e; cases e; exact ⟨x1_NoName, x2_NoName, x3_NoName, x4_NoName, o1_NoName, og, ot, o4_NoName⟩
        · rename_i e; cases e; exact ⟨x1_NoPlace, x2_NoPlace, x3_NoPlace, x4_NoPlace, o1_NoPlace, og, ot, o4_NoPlace⟩
        · rename_i e; cases e; exact ⟨x1_BadField, x2_BadField, x3_BadField, x4_BadField, o1_BadField, og, ot, o4_BadField⟩
        · rename_i e; cases e; exact ⟨x1_BadLine, x2_BadLine, x3_BadLine, x4_BadLine, o1_BadLine, og, ot, o4_BadLine⟩
        · rename_i e; cases e; exact ⟨x1_Ringed, x2_Ringed, x3_Ringed, x4_Ringed, o1_Ringed, og, ot, o4_Ringed⟩
      )
    n_isinstance := PySem.W.mg_none_of X G z_isinstance
    n_int := PySem.W.mg_none_of X G z_int
    is_tb_list_tuple := (by
      refine ⟨fun ty b h => ?_, fun c b h => ?_, fun c b h => ?_⟩
      · unfold tb_list_tuple at h
        split at h
        · cases h; exact w_tb_list_tuple_non
        · cases h; exact w_tb_list_tuple_bl
        · cases h; exact w_tb_list_tuple_int
        · cases h; exact w_tb_list_tuple_str
        · cases h; exact w_tb_list_tuple_lst
        · cases h; exact w_tb_list_tuple_tup
        · cases h; exact w_tb_list_tuple_dct
        · cases h; exact w_tb_list_tuple_obj4
        · cases h; exact w_tb_list_tuple_exc0
        · cases h; exact w_tb_list_tuple_exc5
        · cases h; exact w_tb_list_tuple_exc1
        · cases h; exact w_tb_list_tuple_exc2
        · cases h; exact w_tb_list_tuple_exc3
        · cases h
      · unfold tb_list_tuple at h
        split at h <;> first | (rename_i e; cases e; done) | cases h | skip
        · rename_i e; cases e; exact ⟨⟨q1_Keys, q2_Keys, q3_Keys, q4_Keys⟩, o1_Keys, og, ot, o4_Keys⟩
      · unfold tb_list_tuple at h
        split at h <;> first | (rename_i e; cases e; done) | cases h | skip
        · rename_i e; cases e; exact ⟨x1_NoName, x2_NoName, x3_NoName, x4_NoName, o1_NoName, og, ot, o4_NoName⟩
        · rename_i e; cases e; exact ⟨x1_NoPlace, x2_NoPlace, x3_NoPlace, x4_NoPlace, o1_NoPlace, og, ot, o4_NoPlace⟩
        · rename_i e; cases e; exact ⟨x1_BadField, x2_BadField, x3_BadField, x4_BadField, o1_BadField, og, ot, o4_BadField⟩
        · rename_i e; cases e; exact ⟨x1_BadLine, x2_BadLine, x3_BadLine, x4_BadLine, o1_BadLine, og, ot, o4_BadLine⟩
        · rename_i e; cases e; exact ⟨x1_Ringed, x2_Ringed, x3_Ringed, x4_Ringed, o1_Ringed, og, ot, o4_Ringed⟩
      )
    m__law_lists := PySem.W.mg_of X G a__law_lists
    F__law_lists := HF__law_lists
    b__law_lists := HF__law_lists.bindsN (fun _ _ _ _ _ _ us hl => match us, hl with | [_], _ => rfl)
    is_tb_list := (by
      refine ⟨fun ty b h => ?_, fun c b h => ?_, fun c b h => ?_⟩
      · unfold tb_list at h
        split at h
        · cases h; exact w_tb_list_non
        · cases h; exact w_tb_list_bl
        · cases h; exact w_tb_list_int
        · cases h; exact w_tb_list_str
        · cases h; exact w_tb_list_lst
        · cases h; exact w_tb_list_tup
        · cases h; exact w_tb_list_dct
        · cases h; exact w_tb_list_obj4
        · cases h; exact w_tb_list_exc0
        · cases h; exact w_tb_list_exc5
        · cases h; exact w_tb_list_exc1
        · cases h; exact w_tb_list_exc2
        · cases h; exact w_tb_list_exc3
        · cases h
      · unfold tb_list at h
        split at h <;> first | (rename_i e; cases e; done) | cases h | skip
        · rename_i e; cases e; exact ⟨⟨q1_Keys, q2_Keys, q3_Keys, q4_Keys⟩, o1_Keys, og, ot, o4_Keys⟩
      · unfold tb_list at h
        split at h <;> first | (rename_i e; cases e; done) | cases h | skip
        · rename_i e; cases e; exact ⟨x1_NoName, x2_NoName, x3_NoName, x4_NoName, o1_NoName, og, ot, o4_NoName⟩
        · rename_i e; cases e; exact ⟨x1_NoPlace, x2_NoPlace, x3_NoPlace, x4_NoPlace, o1_NoPlace, og, ot, o4_NoPlace⟩
        · rename_i e; cases e; exact ⟨x1_BadField, x2_BadField, x3_BadField, x4_BadField, o1_BadField, og, ot, o4_BadField⟩
        · rename_i e; cases e; exact ⟨x1_BadLine, x2_BadLine, x3_BadLine, x4_BadLine, o1_BadLine, og, ot, o4_BadLine⟩
        · rename_i e; cases e; exact ⟨x1_Ringed, x2_Ringed, x3_Ringed, x4_Ringed, o1_Ringed, og, ot, o4_Ringed⟩
      )
    is_tb_tuple := (by
      refine ⟨fun ty b h => ?_, fun c b h => ?_, fun c b h => ?_⟩
      · unfold tb_tuple at h
        split at h
        · cases h; exact w_tb_tuple_non
        · cases h; exact w_tb_tuple_bl
        · cases h; exact w_tb_tuple_int
        · cases h; exact w_tb_tuple_str
        · cases h; exact w_tb_tuple_lst
        · cases h; exact w_tb_tuple_tup
        · cases h; exact w_tb_tuple_dct
        · cases h; exact w_tb_tuple_obj4
        · cases h; exact w_tb_tuple_exc0
        · cases h; exact w_tb_tuple_exc5
        · cases h; exact w_tb_tuple_exc1
        · cases h; exact w_tb_tuple_exc2
        · cases h; exact w_tb_tuple_exc3
        · cases h
      · unfold tb_tuple at h
        split at h <;> first | (rename_i e; cases e; done) | cases h | skip
        · rename_i e; cases e; exact ⟨⟨q1_Keys, q2_Keys, q3_Keys, q4_Keys⟩, o1_Keys, og, ot, o4_Keys⟩
      · unfold tb_tuple at h
        split at h <;> first | (rename_i e; cases e; done) | cases h | skip
        · rename_i e; cases e; exact ⟨x1_NoName, x2_NoName, x3_NoName, x4_NoName, o1_NoName, og, ot, o4_NoName⟩
        · rename_i e; cases e; exact ⟨x1_NoPlace, x2_NoPlace, x3_NoPlace, x4_NoPlace, o1_NoPlace, og, ot, o4_NoPlace⟩
        · rename_i e; cases e; exact ⟨x1_BadField, x2_BadField, x3_BadField, x4_BadField, o1_BadField, og, ot, o4_BadField⟩
        · rename_i e; cases e; exact ⟨x1_BadLine, x2_BadLine, x3_BadLine, x4_BadLine, o1_BadLine, og, ot, o4_BadLine⟩
        · rename_i e; cases e; exact ⟨x1_Ringed, x2_Ringed, x3_Ringed, x4_Ringed, o1_Ringed, og, ot, o4_Ringed⟩
      )
    n_zip := PySem.W.mg_none_of X G z_zip
    m__law_same := PySem.W.mg_of X G a__law_same
    F__law_same := HF__law_same
    b__law_same := HF__law_same.bindsN (fun _ _ _ _ _ _ us hl => match us, hl with | [_, _], _ => rfl)
    n_all := PySem.W.mg_none_of X G z_all
    n_str := PySem.W.mg_none_of X G z_str
    n_bool := PySem.W.mg_none_of X G z_bool
    is_tb_bool_str := (by
      refine ⟨fun ty b h => ?_, fun c b h => ?_, fun c b h => ?_⟩
      · unfold tb_bool_str at h
        split at h
        · cases h; exact w_tb_bool_str_non
        · cases h; exact w_tb_bool_str_bl
        · cases h; exact w_tb_bool_str_int
        · cases h; exact w_tb_bool_str_str
        · cases h; exact w_tb_bool_str_lst
        · cases h; exact w_tb_bool_str_tup
        · cases h; exact w_tb_bool_str_dct
        · cases h; exact w_tb_bool_str_obj4
        · cases h; exact w_tb_bool_str_exc0
        · cases h; exact w_tb_bool_str_exc5
        · cases h; exact w_tb_bool_str_exc1
        · cases h; exact w_tb_bool_str_exc2
        · cases h; exact w_tb_bool_str_exc3
        · cases h
      · unfold tb_bool_str at h
        split at h <;> first | (rename_i e; cases e; done) | cases h | skip
        · rename_i e; cases e; exact ⟨⟨q1_Keys, q2_Keys, q3_Keys, q4_Keys⟩, o1_Keys, og, ot, o4_Keys⟩
      · unfold tb_bool_str at h
        split at h <;> first | (rename_i e; cases e; done) | cases h | skip
        · rename_i e; cases e; exact ⟨x1_NoName, x2_NoName, x3_NoName, x4_NoName, o1_NoName, og, ot, o4_NoName⟩
        · rename_i e; cases e; exact ⟨x1_NoPlace, x2_NoPlace, x3_NoPlace, x4_NoPlace, o1_NoPlace, og, ot, o4_NoPlace⟩
        · rename_i e; cases e; exact ⟨x1_BadField, x2_BadField, x3_BadField, x4_BadField, o1_BadField, og, ot, o4_BadField⟩
        · rename_i e; cases e; exact ⟨x1_BadLine, x2_BadLine, x3_BadLine, x4_BadLine, o1_BadLine, og, ot, o4_BadLine⟩
        · rename_i e; cases e; exact ⟨x1_Ringed, x2_Ringed, x3_Ringed, x4_Ringed, o1_Ringed, og, ot, o4_Ringed⟩
      )
    is_tb_bool := (by
      refine ⟨fun ty b h => ?_, fun c b h => ?_, fun c b h => ?_⟩
      · unfold tb_bool at h
        split at h
        · cases h; exact w_tb_bool_non
        · cases h; exact w_tb_bool_bl
        · cases h; exact w_tb_bool_int
        · cases h; exact w_tb_bool_str
        · cases h; exact w_tb_bool_lst
        · cases h; exact w_tb_bool_tup
        · cases h; exact w_tb_bool_dct
        · cases h; exact w_tb_bool_obj4
        · cases h; exact w_tb_bool_exc0
        · cases h; exact w_tb_bool_exc5
        · cases h; exact w_tb_bool_exc1
        · cases h; exact w_tb_bool_exc2
        · cases h; exact w_tb_bool_exc3
        · cases h
      · unfold tb_bool at h
        split at h <;> first | (rename_i e; cases e; done) | cases h | skip
        · rename_i e; cases e; exact ⟨⟨q1_Keys, q2_Keys, q3_Keys, q4_Keys⟩, o1_Keys, og, ot, o4_Keys⟩
      · unfold tb_bool at h
        split at h <;> first | (rename_i e; cases e; done) | cases h | skip
        · rename_i e; cases e; exact ⟨x1_NoName, x2_NoName, x3_NoName, x4_NoName, o1_NoName, og, ot, o4_NoName⟩
        · rename_i e; cases e; exact ⟨x1_NoPlace, x2_NoPlace, x3_NoPlace, x4_NoPlace, o1_NoPlace, og, ot, o4_NoPlace⟩
        · rename_i e; cases e; exact ⟨x1_BadField, x2_BadField, x3_BadField, x4_BadField, o1_BadField, og, ot, o4_BadField⟩
        · rename_i e; cases e; exact ⟨x1_BadLine, x2_BadLine, x3_BadLine, x4_BadLine, o1_BadLine, og, ot, o4_BadLine⟩
        · rename_i e; cases e; exact ⟨x1_Ringed, x2_Ringed, x3_Ringed, x4_Ringed, o1_Ringed, og, ot, o4_Ringed⟩
      )
    is_tb_int := (by
      refine ⟨fun ty b h => ?_, fun c b h => ?_, fun c b h => ?_⟩
      · unfold tb_int at h
        split at h
        · cases h; exact w_tb_int_non
        · cases h; exact w_tb_int_bl
        · cases h; exact w_tb_int_int
        · cases h; exact w_tb_int_str
        · cases h; exact w_tb_int_lst
        · cases h; exact w_tb_int_tup
        · cases h; exact w_tb_int_dct
        · cases h; exact w_tb_int_obj4
        · cases h; exact w_tb_int_exc0
        · cases h; exact w_tb_int_exc5
        · cases h; exact w_tb_int_exc1
        · cases h; exact w_tb_int_exc2
        · cases h; exact w_tb_int_exc3
        · cases h
      · unfold tb_int at h
        split at h <;> first | (rename_i e; cases e; done) | cases h | skip
        · rename_i e; cases e; exact ⟨⟨q1_Keys, q2_Keys, q3_Keys, q4_Keys⟩, o1_Keys, og, ot, o4_Keys⟩
      · unfold tb_int at h
        split at h <;> first | (rename_i e; cases e; done) | cases h | skip
        · rename_i e; cases e; exact ⟨x1_NoName, x2_NoName, x3_NoName, x4_NoName, o1_NoName, og, ot, o4_NoName⟩
        · rename_i e; cases e; exact ⟨x1_NoPlace, x2_NoPlace, x3_NoPlace, x4_NoPlace, o1_NoPlace, og, ot, o4_NoPlace⟩
        · rename_i e; cases e; exact ⟨x1_BadField, x2_BadField, x3_BadField, x4_BadField, o1_BadField, og, ot, o4_BadField⟩
        · rename_i e; cases e; exact ⟨x1_BadLine, x2_BadLine, x3_BadLine, x4_BadLine, o1_BadLine, og, ot, o4_BadLine⟩
        · rename_i e; cases e; exact ⟨x1_Ringed, x2_Ringed, x3_Ringed, x4_Ringed, o1_Ringed, og, ot, o4_Ringed⟩
      )
    m__law_take := PySem.W.mg_of X G a__law_take
    F__law_take := HF__law_take
    b__law_take := HF__law_take.bindsN (fun _ _ _ _ _ _ us hl => match us, hl with | [_, _], _ => rfl)
    n_range := PySem.W.mg_none_of X G z_range
    m__law_mixed := PySem.W.mg_of X G a__law_mixed
    F__law_mixed := HF__law_mixed
    b__law_mixed := HF__law_mixed.bindsN (fun _ _ _ _ _ _ us hl => match us, hl with | [_, _], _ => rfl)
    n_enumerate := PySem.W.mg_none_of X G z_enumerate
    n_dict := PySem.W.mg_none_of X G z_dict
    at_Keys_D_lenD_ := a_Keys_D_lenD_
    fn_Keys_D_lenD_ := i_Keys_D_lenD_
    mk_Keys := ⟨q5_Keys, a_Keys_D_initD_, i_Keys_D_initD_, q6_Keys⟩
    b_Keys_D_initD_ := bindsFull HF_Keys_D_initD_ (by simp) (fun T kV doc pm an cdv ct us its h1 h2 => match us, its, h1, h2 with | [_, _, _], [_], _, _ => ⟨_, rfl, rfl⟩)
    b_Keys_D_lenD_ := HF_Keys_D_lenD_.bindsN (fun _ _ _ _ _ _ us hl => match us, hl with | [_], _ => rfl)
    me_Keys_tells := ⟨a_Keys_tells, i_Keys_tells, k_Keys_tells⟩
    cl_Keys := ⟨q1_Keys, q2_Keys, q3_Keys, q4_Keys⟩
    b_Keys_tells := HF_Keys_tells.bindsN (fun _ _ _ _ _ _ us hl => match us, hl with | [_, _, _], _ => rfl)
    me_Keys_told := ⟨a_Keys_told, i_Keys_told, k_Keys_told⟩
    b_Keys_told := HF_Keys_told.bindsN (fun _ _ _ _ _ _ us hl => match us, hl with | [_, _], _ => rfl)
    htst_BadField_NoName_NoPlace_Ringed := (fun c b h => by
      unfold tst_BadField_NoName_NoPlace_Ringed at h
      split at h
      · cases h; exact v_tst_BadField_NoName_NoPlace_Ringed_NoName
      · cases h; exact v_tst_BadField_NoName_NoPlace_Ringed_NoPlace
      · cases h; exact v_tst_BadField_NoName_NoPlace_Ringed_BadField
      · cases h; exact v_tst_BadField_NoName_NoPlace_Ringed_BadLine
      · cases h; exact v_tst_BadField_NoName_NoPlace_Ringed_Ringed
      · cases h)
    m_NoPlace := PySem.W.mg_of X G ac_NoPlace
    m_BadField := PySem.W.mg_of X G ac_BadField
    is_tb_NoName := (by
      refine ⟨fun ty b h => ?_, fun c b h => ?_, fun c b h => ?_⟩
      · unfold tb_NoName at h
        split at h
        · cases h; exact w_tb_NoName_non
        · cases h; exact w_tb_NoName_bl
        · cases h; exact w_tb_NoName_int
        · cases h; exact w_tb_NoName_str
        · cases h; exact w_tb_NoName_lst
        · cases h; exact w_tb_NoName_tup
        · cases h; exact w_tb_NoName_dct
        · cases h; exact w_tb_NoName_obj4
        · cases h; exact w_tb_NoName_exc0
        · cases h; exact w_tb_NoName_exc5
        · cases h; exact w_tb_NoName_exc1
        · cases h; exact w_tb_NoName_exc2
        · cases h; exact w_tb_NoName_exc3
        · cases h
      · unfold tb_NoName at h
        split at h <;> first | (rename_i e; cases e; done) | cases h | skip
        · rename_i e; cases e; exact ⟨⟨q1_Keys, q2_Keys, q3_Keys, q4_Keys⟩, o1_Keys, og, ot, o4_Keys⟩
      · unfold tb_NoName at h
        split at h <;> first | (rename_i e; cases e; done) | cases h | skip
        · rename_i e; cases e; exact ⟨x1_NoName, x2_NoName, x3_NoName, x4_NoName, o1_NoName, og, ot, o4_NoName⟩
        · rename_i e; cases e; exact ⟨x1_NoPlace, x2_NoPlace, x3_NoPlace, x4_NoPlace, o1_NoPlace, og, ot, o4_NoPlace⟩
        · rename_i e; cases e; exact ⟨x1_BadField, x2_BadField, x3_BadField, x4_BadField, o1_BadField, og, ot, o4_BadField⟩
        · rename_i e; cases e; exact ⟨x1_BadLine, x2_BadLine, x3_BadLine, x4_BadLine, o1_BadLine, og, ot, o4_BadLine⟩
        · rename_i e; cases e; exact ⟨x1_Ringed, x2_Ringed, x3_Ringed, x4_Ringed, o1_Ringed, og, ot, o4_Ringed⟩
      )
    n_LookupError := PySem.W.mg_none_of X G z_LookupError
    is_tb_LookupError := (by
      refine ⟨fun ty b h => ?_, fun c b h => ?_, fun c b h => ?_⟩
      · unfold tb_LookupError at h
        split at h
        · cases h; exact w_tb_LookupError_non
        · cases h; exact w_tb_LookupError_bl
        · cases h; exact w_tb_LookupError_int
        · cases h; exact w_tb_LookupError_str
        · cases h; exact w_tb_LookupError_lst
        · cases h; exact w_tb_LookupError_tup
        · cases h; exact w_tb_LookupError_dct
        · cases h; exact w_tb_LookupError_obj4
        · cases h; exact w_tb_LookupError_exc0
        · cases h; exact w_tb_LookupError_exc5
        · cases h; exact w_tb_LookupError_exc1
        · cases h; exact w_tb_LookupError_exc2
        · cases h; exact w_tb_LookupError_exc3
        · cases h
      · unfold tb_LookupError at h
        split at h <;> first | (rename_i e; cases e; done) | cases h | skip
        · rename_i e; cases e; exact ⟨⟨q1_Keys, q2_Keys, q3_Keys, q4_Keys⟩, o1_Keys, og, ot, o4_Keys⟩
      · unfold tb_LookupError at h
        split at h <;> first | (rename_i e; cases e; done) | cases h | skip
        · rename_i e; cases e; exact ⟨x1_NoName, x2_NoName, x3_NoName, x4_NoName, o1_NoName, og, ot, o4_NoName⟩
        · rename_i e; cases e; exact ⟨x1_NoPlace, x2_NoPlace, x3_NoPlace, x4_NoPlace, o1_NoPlace, og, ot, o4_NoPlace⟩
        · rename_i e; cases e; exact ⟨x1_BadField, x2_BadField, x3_BadField, x4_BadField, o1_BadField, og, ot, o4_BadField⟩
        · rename_i e; cases e; exact ⟨x1_BadLine, x2_BadLine, x3_BadLine, x4_BadLine, o1_BadLine, og, ot, o4_BadLine⟩
        · rename_i e; cases e; exact ⟨x1_Ringed, x2_Ringed, x3_Ringed, x4_Ringed, o1_Ringed, og, ot, o4_Ringed⟩
      )
    xf_name := (fun c hc => by
      simp only [List.mem_cons, List.not_mem_nil, or_false] at hc
      subst hc
      · exact ⟨⟨x1_NoName, x2_NoName, x3_NoName, x4_NoName⟩, nf_NoName_name⟩)
    at_Keys_D_containsD_ := a_Keys_D_containsD_
    fn_Keys_D_containsD_ := i_Keys_D_containsD_
    b_Keys_D_containsD_ := HF_Keys_D_containsD_.bindsN (fun _ _ _ _ _ _ us hl => match us, hl with | [_, _], _ => rfl)
    pr_Keys_pairs := ⟨a_Keys_pairs, pg_Keys_pairs, pt_Keys_pairs, ⟨_, rc_Keys_pairs⟩⟩
    b_Keys_pairs := HF_Keys_pairs.bindsN (fun _ _ _ _ _ _ us hl => match us, hl with | [_], _ => rfl)
    pr_Keys_names := ⟨a_Keys_names, pg_Keys_names, pt_Keys_names, ⟨_, rc_Keys_names⟩⟩
    b_Keys_names := HF_Keys_names.bindsN (fun _ _ _ _ _ _ us hl => match us, hl with | [_], _ => rfl)
    m__law_heard := PySem.W.mg_of X G a__law_heard
    F__law_heard := HF__law_heard
    b__law_heard := HF__law_heard.bindsN (fun _ _ _ _ _ _ us hl => match us, hl with | [_, _, _, _], _ => rfl)
    dd_Keys_D_initD_ := (fun ua F => (.cons (.tup (.inr ⟨_, _, _, v0_Keys_D_initD_, rfl, rfl, by decide, .nil⟩) .nil) .nil))
    bd_Keys_D_initD_ := HF_Keys_D_initD_.binds1 2 0 (by simp) rfl (fun T kV doc pm an cdv ct us its h1 h2 => match us, its, h1, h2 with | [_, _], [_], _, _ => ⟨_, rfl, rfl⟩)
    q_Keys_D_eqD_ := (fun ty h => by
      unfold tbo_Keys at h
      split at h
      · exact nfst_Keys_D_eqD_
      · exact nfst_Keys_D_eqD__non
      · exact nfst_Keys_D_eqD__bl
      · exact nfst_Keys_D_eqD__int
      · exact nfst_Keys_D_eqD__str
      · exact nfst_Keys_D_eqD__lst
      · exact nfst_Keys_D_eqD__tup
      · exact nfst_Keys_D_eqD__dct
      · cases h)
    at_Keys_D_eqD_ := a_Keys_D_eqD_
    fn_Keys_D_eqD_ := i_Keys_D_eqD_
    b_Keys_D_eqD_ := HF_Keys_D_eqD_.bindsN (fun _ _ _ _ _ _ us hl => match us, hl with | [_, _], _ => rfl)
    m__law_by_hand_right := PySem.W.mg_of X G a__law_by_hand_right
    F__law_by_hand_right := HF__law_by_hand_right
    b__law_by_hand_right := HF__law_by_hand_right.bindsN (fun _ _ _ _ _ _ us hl => match us, hl with | [], _ => rfl)
    m__law_book := PySem.W.mg_of X G a__law_book
    F__law_book := HF__law_book
    b__law_book := HF__law_book.bindsN (fun _ _ _ _ _ _ us hl => match us, hl with | [_, _], _ => rfl)
    m__law_told := PySem.W.mg_of X G a__law_told
    F__law_told := HF__law_told
    b__law_told := HF__law_told.bindsN (fun _ _ _ _ _ _ us hl => match us, hl with | [_], _ => rfl)
    m__law_few := PySem.W.mg_of X G a__law_few
    F__law_few := HF__law_few
    b__law_few := HF__law_few.bindsN (fun _ _ _ _ _ _ us hl => match us, hl with | [_, _, _], _ => rfl)
    kb_Keys_told__0_name := kbN HF_Keys_told (fun _ _ _ _ _ _ us ws h1 h2 => match us, ws, h1, h2 with | [_], [_], _, _ => ⟨_, rfl, rfl⟩)
    kb_Keys_tells__0_one_other := kbN HF_Keys_tells (fun _ _ _ _ _ _ us ws h1 h2 => match us, ws, h1, h2 with | [_], [_, _], _, _ => ⟨_, rfl, rfl⟩)
    kb_Keys_D_initD___0_names_tells := kbD HF_Keys_D_initD_ (by simp) (fun T kV doc pm an cdv ct us its ws h1 h2 h3 => match us, its, ws, h1, h2, h3 with | [_], [_], [_, _], _, _, _ => ⟨_, rfl, _, rfl, rfl⟩)
    ne_Keys := nee_Keys
    mo_Keys := o4_Keys
    F_Keys_D_initD_ := HF_Keys_D_initD_
    F_Keys_names := HF_Keys_names
    F_Keys_pairs := HF_Keys_pairs
    F_Keys_told := HF_Keys_told
    F_Keys_tells := HF_Keys_tells
    F_Keys_D_containsD_ := HF_Keys_D_containsD_
    F_Keys_D_lenD_ := HF_Keys_D_lenD_
    F_Keys_D_eqD_ := HF_Keys_D_eqD_
    F__law_box := HF__law_box
    F__law_cells := HF__law_cells
    F__law_right := HF__law_right
    F_law := HF_law
    n_abs := PySem.W.mg_none_of X G z_abs
    m__law_right := PySem.W.mg_of X G a__law_right
    b__law_right := HF__law_right.bindsN (fun _ _ _ _ _ _ us hl => match us, hl with | [_], _ => rfl)
    m__law_box := PySem.W.mg_of X G a__law_box
    b__law_box := HF__law_box.bindsN (fun _ _ _ _ _ _ us hl => match us, hl with | [_, _], _ => rfl)
    m__law_cells := PySem.W.mg_of X G a__law_cells
    b__law_cells := HF__law_cells.bindsN (fun _ _ _ _ _ _ us hl => match us, hl with | [_, _], _ => rfl)
    m_law := PySem.W.mg_of X G a_law
    b_law := HF_law.bindsN (fun _ _ _ _ _ _ us hl => match us, hl with | [_], _ => rfl) }
theorem walk {l : PySem.W.OpenLaw} {q : Program} {loose : List Str} {XP : (Str → Option Value) → Heap → Prop} {YP : World → Heap → Prop} {d : DefRec} {K : Params → PySem.W.Frag} (hn : l.most = some 63) (hdf : d.params.defaults = [])
    (hY : ∀ (w : World) (h : Heap), YP w h → (K w.params).In h)
    (F : ∀ (w : World) (mg : Str → Option Value) (fa : Addr) (h : Heap), (K w.params).In h → h.Ns mainGlobals mg → mg d.name = some (.ref fa) →
      ∃ fd : FuncData, (∀ (s : Shared) (u : Value), BindsTo s fd ⟨[u], []⟩ [("_law_script", u)]) ∧ ∀ base : Heap, (K w.params).In base → base.Ns mainGlobals mg → FnOk l.prog w (K w.params) mg base (L2.CX l.prog w) 9 fa fd ["_law_script"] (spLaw (K w.params))) :
    PySem.W.WalkO q loose XP YP l.row.toRowW d [] (fun f vs => PySem.call f vs) :=
  L2.walk_of (n := 63) (k := 9) (x := "_law_script") (CX := fun w => L2.CX l.prog w) (sp := fun w => spLaw (K w.params)) hn (by decide) hdf ⟨rfl, by decide, by decide⟩ hY F (fun _ _ a ns hl _ hS => ⟨a, ns, rfl, hS, hl, fun _ => rfl⟩) fun _ _ _ _ _ z => no_cx z
theorem mk_law {P : Program} {w : World} {K : PySem.W.Frag} {mg : Str → Option Value} {fa : Addr} (h : ∃ A : Ad, Tx P K mg A ∧ A.f_law = fa ∧ ∀ (s : Shared) (v : Value), BindsTo s A.d_law ⟨[v], []⟩ [("_law_script", v)]) :
    ∃ fd : FuncData, (∀ (s : Shared) (u : Value), BindsTo s fd ⟨[u], []⟩ [("_law_script", u)]) ∧ ∀ base : Heap, K.In base → base.Ns mainGlobals mg → FnOk P w K mg base (L2.CX P w) 9 fa fd ["_law_script"] (spLaw K) := by
  obtain ⟨A, T, rfl, hb⟩ := h
  exact ⟨A.d_law, hb, fun base _ _ => law_ok (kR := 7) T (ok__law_right T) right_true⟩
end Pr
open PySem PySem.W PyProof.Rows
set_option maxRecDepth 100000 in
set_option maxHeartbeats 0 in
theorem PySem.Challenge.cw_keyspans_k01_keys_and_what_they_tell_holds : PySem.Challenge.rw_keyspans_k01_keys_and_what_they_tell.Holds := by
  w_on; o_law; k_head; (case hw => w_witness2)
  k_fill
  refine Pr.walk (l := PySem.Challenge.rw_keyspans_k01_keys_and_what_they_tell) rfl rfl (fun w h Y => PySem.W.kIn_of Y) ?F
  case F =>
    intro w mg fa h KX G hmg
    refine Pr.mk_law ?_
    refine' Pr.all_mk KX G hmg ?ac_NoName ?ac_NoPlace ?ac_BadField ?ac_BadLine ?ac_Ringed ?ac_Keys ?a_reached ?l_reached ?c_reached ?k_reached ?a_check_name ?l_check_name ?c_check_name ?k_check_name ?a_Keys_D_initD_ ?l_Keys_D_initD_ ?c_Keys_D_initD_ ?k_Keys_D_initD_ ?i_Keys_D_initD_ ?t_Keys_D_initD_ ?a_Keys_names ?rc_Keys_names ?pg_Keys_names ?pt_Keys_names ?l_Keys_names ?c_Keys_names ?k_Keys_names ?a_Keys_pairs ?rc_Keys_pairs ?pg_Keys_pairs ?pt_Keys_pairs ?l_Keys_pairs ?c_Keys_pairs ?k_Keys_pairs ?a_Keys_told ?l_Keys_told ?c_Keys_told ?k_Keys_told ?i_Keys_told ?a_Keys_tells ?l_Keys_tells ?c_Keys_tells ?k_Keys_tells ?i_Keys_tells ?a_Keys_D_containsD_ ?l_Keys_D_containsD_ ?c_Keys_D_containsD_ ?k_Keys_D_containsD_ ?i_Keys_D_containsD_ ?a_Keys_D_lenD_ ?l_Keys_D_lenD_ ?c_Keys_D_lenD_ ?k_Keys_D_lenD_ ?i_Keys_D_lenD_ ?a_Keys_D_eqD_ ?l_Keys_D_eqD_ ?c_Keys_D_eqD_ ?k_Keys_D_eqD_ ?i_Keys_D_eqD_ ?a__law_box ?l__law_box ?c__law_box ?k__law_box ?a__law_take ?l__law_take ?c__law_take ?k__law_take ?a__law_cells ?l__law_cells ?c__law_cells ?k__law_cells ?a__law_lists ?l__law_lists ?c__law_lists ?k__law_lists ?a__law_same ?l__law_same ?c__law_same ?k__law_same ?a__law_few ?l__law_few ?c__law_few ?k__law_few ?a__law_mixed ?l__law_mixed ?c__law_mixed ?k__law_mixed ?a__law_book ?l__law_book ?c__law_book ?k__law_book ?a__law_told ?l__law_told ?c__law_told ?k__law_told ?a__law_heard ?l__law_heard ?c__law_heard ?k__law_heard ?a__law_by_hand_right ?l__law_by_hand_right ?c__law_by_hand_right ?k__law_by_hand_right ?a__law_right ?l__law_right ?c__law_right ?k__law_right ?a_law ?l_law ?c_law ?k_law ?q1_Keys ?q2_Keys ?q3_Keys ?q4_Keys ?q5_Keys ?q6_Keys ?z_list ?z_len ?z_sorted ?z_set ?z_tuple ?y_NUMBER ?x1_NoName ?x2_NoName ?x3_NoName ?x4_NoName ?e1_NoName ?e2_NoName ?e3_NoName ?e4_NoName ?e5_NoName ?e6_NoName ?e7_NoName ?nf_NoName_name ?e8_NoName ?e9_NoName ?e10_NoName ?e11_NoName ?e12_NoName ?e13_NoName ?e14_NoName ?e15_NoName ?e16_NoName ?oq ?tsup ?z_super ?nf_Keys_own_names ?nf_Keys_own_told ?x1_Ringed ?x2_Ringed ?x3_Ringed ?x4_Ringed ?e1_Ringed ?e2_Ringed ?e3_Ringed ?e4_Ringed ?e5_Ringed ?e6_Ringed ?e7_Ringed ?nf_Ringed_ring ?e8_Ringed ?e9_Ringed ?e10_Ringed ?e11_Ringed ?e12_Ringed ?e13_Ringed ?e14_Ringed ?e15_Ringed ?e16_Ringed ?w_tb_Keys_non ?w_tb_Keys_bl ?w_tb_Keys_int ?w_tb_Keys_str ?w_tb_Keys_lst ?w_tb_Keys_tup ?w_tb_Keys_dct ?w_tb_Keys_obj4 ?w_tb_Keys_exc0 ?w_tb_Keys_exc5 ?w_tb_Keys_exc1 ?w_tb_Keys_exc2 ?w_tb_Keys_exc3 ?o1_Keys ?o4_Keys ?o1_NoName ?o4_NoName ?x1_NoPlace ?x2_NoPlace ?x3_NoPlace ?x4_NoPlace ?o1_NoPlace ?o4_NoPlace ?x1_BadField ?x2_BadField ?x3_BadField ?x4_BadField ?o1_BadField ?o4_BadField ?x1_BadLine ?x2_BadLine ?x3_BadLine ?x4_BadLine ?o1_BadLine ?o4_BadLine ?o1_Ringed ?o4_Ringed ?og ?ot ?z_isinstance ?z_int ?w_tb_list_tuple_non ?w_tb_list_tuple_bl ?w_tb_list_tuple_int ?w_tb_list_tuple_str ?w_tb_list_tuple_lst ?w_tb_list_tuple_tup ?w_tb_list_tuple_dct ?w_tb_list_tuple_obj4 ?w_tb_list_tuple_exc0 ?w_tb_list_tuple_exc5 ?w_tb_list_tuple_exc1 ?w_tb_list_tuple_exc2 ?w_tb_list_tuple_exc3 ?w_tb_list_non ?w_tb_list_bl ?w_tb_list_int ?w_tb_list_str ?w_tb_list_lst ?w_tb_list_tup ?w_tb_list_dct ?w_tb_list_obj4 ?w_tb_list_exc0 ?w_tb_list_exc5 ?w_tb_list_exc1 ?w_tb_list_exc2 ?w_tb_list_exc3 ?w_tb_tuple_non ?w_tb_tuple_bl ?w_tb_tuple_int ?w_tb_tuple_str ?w_tb_tuple_lst ?w_tb_tuple_tup ?w_tb_tuple_dct ?w_tb_tuple_obj4 ?w_tb_tuple_exc0 ?w_tb_tuple_exc5 ?w_tb_tuple_exc1 ?w_tb_tuple_exc2 ?w_tb_tuple_exc3 ?z_zip ?z_all ?z_str ?z_bool ?w_tb_bool_str_non ?w_tb_bool_str_bl ?w_tb_bool_str_int ?w_tb_bool_str_str ?w_tb_bool_str_lst ?w_tb_bool_str_tup ?w_tb_bool_str_dct ?w_tb_bool_str_obj4 ?w_tb_bool_str_exc0 ?w_tb_bool_str_exc5 ?w_tb_bool_str_exc1 ?w_tb_bool_str_exc2 ?w_tb_bool_str_exc3 ?w_tb_bool_non ?w_tb_bool_bl ?w_tb_bool_int ?w_tb_bool_str ?w_tb_bool_lst ?w_tb_bool_tup ?w_tb_bool_dct ?w_tb_bool_obj4 ?w_tb_bool_exc0 ?w_tb_bool_exc5 ?w_tb_bool_exc1 ?w_tb_bool_exc2 ?w_tb_bool_exc3 ?w_tb_int_non ?w_tb_int_bl ?w_tb_int_int ?w_tb_int_str ?w_tb_int_lst ?w_tb_int_tup ?w_tb_int_dct ?w_tb_int_obj4 ?w_tb_int_exc0 ?w_tb_int_exc5 ?w_tb_int_exc1 ?w_tb_int_exc2 ?w_tb_int_exc3 ?z_range ?z_enumerate ?z_dict ?v_tst_BadField_NoName_NoPlace_Ringed_NoName ?v_tst_BadField_NoName_NoPlace_Ringed_NoPlace ?v_tst_BadField_NoName_NoPlace_Ringed_BadField ?v_tst_BadField_NoName_NoPlace_Ringed_BadLine ?v_tst_BadField_NoName_NoPlace_Ringed_Ringed ?w_tb_NoName_non ?w_tb_NoName_bl ?w_tb_NoName_int ?w_tb_NoName_str ?w_tb_NoName_lst ?w_tb_NoName_tup ?w_tb_NoName_dct ?w_tb_NoName_obj4 ?w_tb_NoName_exc0 ?w_tb_NoName_exc5 ?w_tb_NoName_exc1 ?w_tb_NoName_exc2 ?w_tb_NoName_exc3 ?z_LookupError ?w_tb_LookupError_non ?w_tb_LookupError_bl ?w_tb_LookupError_int ?w_tb_LookupError_str ?w_tb_LookupError_lst ?w_tb_LookupError_tup ?w_tb_LookupError_dct ?w_tb_LookupError_obj4 ?w_tb_LookupError_exc0 ?w_tb_LookupError_exc5 ?w_tb_LookupError_exc1 ?w_tb_LookupError_exc2 ?w_tb_LookupError_exc3 ?v0_Keys_D_initD_ ?nfst_Keys_D_eqD_ ?nfst_Keys_D_eqD__non ?nfst_Keys_D_eqD__bl ?nfst_Keys_D_eqD__int ?nfst_Keys_D_eqD__str ?nfst_Keys_D_eqD__lst ?nfst_Keys_D_eqD__tup ?nfst_Keys_D_eqD__dct ?nee_Keys ?z_abs
    (case ac_NoName => k_is)
    (case ac_NoPlace => k_is)
    (case ac_BadField => k_is)
    (case ac_BadLine => k_is)
    (case ac_Ringed => k_is)
    (case ac_Keys => k_is)
    (case a_reached => k_is)
    (case l_reached => k_is)
    (case c_reached => k_is)
    (case k_reached => k_is)
    (case a_check_name => k_is)
    (case l_check_name => k_is)
    (case c_check_name => k_is)
    (case k_check_name => k_is)
    (case a_Keys_D_initD_ => k_is)
    (case l_Keys_D_initD_ => k_is)
    (case c_Keys_D_initD_ => k_is)
    (case k_Keys_D_initD_ => k_is)
    (case i_Keys_D_initD_ => k_is)
    (case t_Keys_D_initD_ => k_is)
    (case a_Keys_names => k_is)
    (case rc_Keys_names => k_is)
    (case pg_Keys_names => k_is)
    (case pt_Keys_names => k_is)
    (case l_Keys_names => k_is)
    (case c_Keys_names => k_is)
    (case k_Keys_names => k_is)
    (case a_Keys_pairs => k_is)
    (case rc_Keys_pairs => k_is)
    (case pg_Keys_pairs => k_is)
    (case pt_Keys_pairs => k_is)
    (case l_Keys_pairs => k_is)
    (case c_Keys_pairs => k_is)
    (case k_Keys_pairs => k_is)
    (case a_Keys_told => k_is)
    (case l_Keys_told => k_is)
    (case c_Keys_told => k_is)
    (case k_Keys_told => k_is)
    (case i_Keys_told => k_is)
    (case a_Keys_tells => k_is)
    (case l_Keys_tells => k_is)
    (case c_Keys_tells => k_is)
    (case k_Keys_tells => k_is)
    (case i_Keys_tells => k_is)
    (case a_Keys_D_containsD_ => k_is)
    (case l_Keys_D_containsD_ => k_is)
    (case c_Keys_D_containsD_ => k_is)
    (case k_Keys_D_containsD_ => k_is)
    (case i_Keys_D_containsD_ => k_is)
    (case a_Keys_D_lenD_ => k_is)
    (case l_Keys_D_lenD_ => k_is)
    (case c_Keys_D_lenD_ => k_is)
    (case k_Keys_D_lenD_ => k_is)
    (case i_Keys_D_lenD_ => k_is)
    (case a_Keys_D_eqD_ => k_is)
    (case l_Keys_D_eqD_ => k_is)
    (case c_Keys_D_eqD_ => k_is)
    (case k_Keys_D_eqD_ => k_is)
    (case i_Keys_D_eqD_ => k_is)
    (case a__law_box => k_is)
    (case l__law_box => k_is)
    (case c__law_box => k_is)
    (case k__law_box => k_is)
    (case a__law_take => k_is)
    (case l__law_take => k_is)
    (case c__law_take => k_is)
    (case k__law_take => k_is)
    (case a__law_cells => k_is)
    (case l__law_cells => k_is)
    (case c__law_cells => k_is)
    (case k__law_cells => k_is)
    (case a__law_lists => k_is)
    (case l__law_lists => k_is)
    (case c__law_lists => k_is)
    (case k__law_lists => k_is)
    (case a__law_same => k_is)
    (case l__law_same => k_is)
    (case c__law_same => k_is)
    (case k__law_same => k_is)
    (case a__law_few => k_is)
    (case l__law_few => k_is)
    (case c__law_few => k_is)
    (case k__law_few => k_is)
    (case a__law_mixed => k_is)
    (case l__law_mixed => k_is)
    (case c__law_mixed => k_is)
    (case k__law_mixed => k_is)
    (case a__law_book => k_is)
    (case l__law_book => k_is)
    (case c__law_book => k_is)
    (case k__law_book => k_is)
    (case a__law_told => k_is)
    (case l__law_told => k_is)
    (case c__law_told => k_is)
    (case k__law_told => k_is)
    (case a__law_heard => k_is)
    (case l__law_heard => k_is)
    (case c__law_heard => k_is)
    (case k__law_heard => k_is)
    (case a__law_by_hand_right => k_is)
    (case l__law_by_hand_right => k_is)
    (case c__law_by_hand_right => k_is)
    (case k__law_by_hand_right => k_is)
    (case a__law_right => k_is)
    (case l__law_right => k_is)
    (case c__law_right => k_is)
    (case k__law_right => k_is)
    (case a_law => k_is)
    (case l_law => k_is)
    (case c_law => k_is)
    (case k_law => k_is)
    (case q1_Keys => k_is)
    (case q2_Keys => k_is)
    (case q3_Keys => k_is)
    (case q4_Keys => k_is)
    (case q5_Keys => k_is)
    (case q6_Keys => k_is)
    (case z_list => k_is)
    (case z_len => k_is)
    (case z_sorted => k_is)
    (case z_set => k_is)
    (case z_tuple => k_is)
    (case y_NUMBER => k_is)
    (case x1_NoName => k_is)
    (case x2_NoName => k_is)
    (case x3_NoName => k_is)
    (case x4_NoName => k_is)
    (case e1_NoName => kx_is)
    (case e2_NoName => kx_is)
    (case e3_NoName => k_is)
    (case e4_NoName => k_is)
    (case e5_NoName => k_is)
    (case e6_NoName => k_is)
    (case e7_NoName => k_is)
    (case nf_NoName_name => k_is)
    (case e8_NoName => k_is)
    (case e9_NoName => k_is)
    (case e10_NoName => k_is)
    (case e11_NoName => rfl)
    (case e12_NoName => first | rfl | decide +kernel)
    (case e13_NoName => k_is)
    (case e14_NoName => ks_is)
    (case e15_NoName => k_is)
    (case e16_NoName => k_is)
    (case oq => k_is)
    (case tsup => first | rfl | decide +kernel)
    (case z_super => k_is)
    (case nf_Keys_own_names => k_is)
    (case nf_Keys_own_told => k_is)
    (case x1_Ringed => k_is)
    (case x2_Ringed => k_is)
    (case x3_Ringed => k_is)
    (case x4_Ringed => k_is)
    (case e1_Ringed => kx_is)
    (case e2_Ringed => kx_is)
    (case e3_Ringed => k_is)
    (case e4_Ringed => k_is)
    (case e5_Ringed => k_is)
    (case e6_Ringed => k_is)
    (case e7_Ringed => k_is)
    (case nf_Ringed_ring => k_is)
    (case e8_Ringed => k_is)
    (case e9_Ringed => k_is)
    (case e10_Ringed => k_is)
    (case e11_Ringed => rfl)
    (case e12_Ringed => first | rfl | decide +kernel)
    (case e13_Ringed => k_is)
    (case e14_Ringed => ks_is)
    (case e15_Ringed => k_is)
    (case e16_Ringed => k_is)
    (case w_tb_Keys_non => kit_is)
    (case w_tb_Keys_bl => kit_is)
    (case w_tb_Keys_int => kit_is)
    (case w_tb_Keys_str => kit_is)
    (case w_tb_Keys_lst => kit_is)
    (case w_tb_Keys_tup => kit_is)
    (case w_tb_Keys_dct => kit_is)
    (case w_tb_Keys_obj4 => kit_is)
    (case w_tb_Keys_exc0 => kit_is)
    (case w_tb_Keys_exc5 => kit_is)
    (case w_tb_Keys_exc1 => kit_is)
    (case w_tb_Keys_exc2 => kit_is)
    (case w_tb_Keys_exc3 => kit_is)
    (case o1_Keys => k_is)
    (case o4_Keys => k_is)
    (case o1_NoName => k_is)
    (case o4_NoName => k_is)
    (case x1_NoPlace => k_is)
    (case x2_NoPlace => k_is)
    (case x3_NoPlace => k_is)
    (case x4_NoPlace => k_is)
    (case o1_NoPlace => k_is)
    (case o4_NoPlace => k_is)
    (case x1_BadField => k_is)
    (case x2_BadField => k_is)
    (case x3_BadField => k_is)
    (case x4_BadField => k_is)
    (case o1_BadField => k_is)
    (case o4_BadField => k_is)
    (case x1_BadLine => k_is)
    (case x2_BadLine => k_is)
    (case x3_BadLine => k_is)
    (case x4_BadLine => k_is)
    (case o1_BadLine => k_is)
    (case o4_BadLine => k_is)
    (case o1_Ringed => k_is)
    (case o4_Ringed => k_is)
    (case og => k_is)
    (case ot => k_is)
    (case z_isinstance => k_is)
    (case z_int => k_is)
    (case w_tb_list_tuple_non => kit_is)
    (case w_tb_list_tuple_bl => kit_is)
    (case w_tb_list_tuple_int => kit_is)
    (case w_tb_list_tuple_str => kit_is)
    (case w_tb_list_tuple_lst => kit_is)
    (case w_tb_list_tuple_tup => kit_is)
    (case w_tb_list_tuple_dct => kit_is)
    (case w_tb_list_tuple_obj4 => kit_is)
    (case w_tb_list_tuple_exc0 => kit_is)
    (case w_tb_list_tuple_exc5 => kit_is)
    (case w_tb_list_tuple_exc1 => kit_is)
    (case w_tb_list_tuple_exc2 => kit_is)
    (case w_tb_list_tuple_exc3 => kit_is)
    (case w_tb_list_non => kit_is)
    (case w_tb_list_bl => kit_is)
    (case w_tb_list_int => kit_is)
    (case w_tb_list_str => kit_is)
    (case w_tb_list_lst => kit_is)
    (case w_tb_list_tup => kit_is)
    (case w_tb_list_dct => kit_is)
    (case w_tb_list_obj4 => kit_is)
    (case w_tb_list_exc0 => kit_is)
    (case w_tb_list_exc5 => kit_is)
    (case w_tb_list_exc1 => kit_is)
    (case w_tb_list_exc2 => kit_is)
    (case w_tb_list_exc3 => kit_is)
    (case w_tb_tuple_non => kit_is)
    (case w_tb_tuple_bl => kit_is)
    (case w_tb_tuple_int => kit_is)
    (case w_tb_tuple_str => kit_is)
    (case w_tb_tuple_lst => kit_is)
    (case w_tb_tuple_tup => kit_is)
    (case w_tb_tuple_dct => kit_is)
    (case w_tb_tuple_obj4 => kit_is)
    (case w_tb_tuple_exc0 => kit_is)
    (case w_tb_tuple_exc5 => kit_is)
    (case w_tb_tuple_exc1 => kit_is)
    (case w_tb_tuple_exc2 => kit_is)
    (case w_tb_tuple_exc3 => kit_is)
    (case z_zip => k_is)
    (case z_all => k_is)
    (case z_str => k_is)
    (case z_bool => k_is)
    (case w_tb_bool_str_non => kit_is)
    (case w_tb_bool_str_bl => kit_is)
    (case w_tb_bool_str_int => kit_is)
    (case w_tb_bool_str_str => kit_is)
    (case w_tb_bool_str_lst => kit_is)
    (case w_tb_bool_str_tup => kit_is)
    (case w_tb_bool_str_dct => kit_is)
    (case w_tb_bool_str_obj4 => kit_is)
    (case w_tb_bool_str_exc0 => kit_is)
    (case w_tb_bool_str_exc5 => kit_is)
    (case w_tb_bool_str_exc1 => kit_is)
    (case w_tb_bool_str_exc2 => kit_is)
    (case w_tb_bool_str_exc3 => kit_is)
    (case w_tb_bool_non => kit_is)
    (case w_tb_bool_bl => kit_is)
    (case w_tb_bool_int => kit_is)
    (case w_tb_bool_str => kit_is)
    (case w_tb_bool_lst => kit_is)
    (case w_tb_bool_tup => kit_is)
    (case w_tb_bool_dct => kit_is)
    (case w_tb_bool_obj4 => kit_is)
    (case w_tb_bool_exc0 => kit_is)
    (case w_tb_bool_exc5 => kit_is)
    (case w_tb_bool_exc1 => kit_is)
    (case w_tb_bool_exc2 => kit_is)
    (case w_tb_bool_exc3 => kit_is)
    (case w_tb_int_non => kit_is)
    (case w_tb_int_bl => kit_is)
    (case w_tb_int_int => kit_is)
    (case w_tb_int_str => kit_is)
    (case w_tb_int_lst => kit_is)
    (case w_tb_int_tup => kit_is)
    (case w_tb_int_dct => kit_is)
    (case w_tb_int_obj4 => kit_is)
    (case w_tb_int_exc0 => kit_is)
    (case w_tb_int_exc5 => kit_is)
    (case w_tb_int_exc1 => kit_is)
    (case w_tb_int_exc2 => kit_is)
    (case w_tb_int_exc3 => kit_is)
    (case z_range => k_is)
    (case z_enumerate => k_is)
    (case z_dict => k_is)
    (case v_tst_BadField_NoName_NoPlace_Ringed_NoName => kts_exm)
    (case v_tst_BadField_NoName_NoPlace_Ringed_NoPlace => kts_exm)
    (case v_tst_BadField_NoName_NoPlace_Ringed_BadField => kts_exm)
    (case v_tst_BadField_NoName_NoPlace_Ringed_BadLine => kts_exm)
    (case v_tst_BadField_NoName_NoPlace_Ringed_Ringed => kts_exm)
    (case w_tb_NoName_non => kit_is)
    (case w_tb_NoName_bl => kit_is)
    (case w_tb_NoName_int => kit_is)
    (case w_tb_NoName_str => kit_is)
    (case w_tb_NoName_lst => kit_is)
    (case w_tb_NoName_tup => kit_is)
    (case w_tb_NoName_dct => kit_is)
    (case w_tb_NoName_obj4 => kit_is)
    (case w_tb_NoName_exc0 => kit_is)
    (case w_tb_NoName_exc5 => kit_is)
    (case w_tb_NoName_exc1 => kit_is)
    (case w_tb_NoName_exc2 => kit_is)
    (case w_tb_NoName_exc3 => kit_is)
    (case z_LookupError => k_is)
    (case w_tb_LookupError_non => kit_is)
    (case w_tb_LookupError_bl => kit_is)
    (case w_tb_LookupError_int => kit_is)
    (case w_tb_LookupError_str => kit_is)
    (case w_tb_LookupError_lst => kit_is)
    (case w_tb_LookupError_tup => kit_is)
    (case w_tb_LookupError_dct => kit_is)
    (case w_tb_LookupError_obj4 => kit_is)
    (case w_tb_LookupError_exc0 => kit_is)
    (case w_tb_LookupError_exc5 => kit_is)
    (case w_tb_LookupError_exc1 => kit_is)
    (case w_tb_LookupError_exc2 => kit_is)
    (case w_tb_LookupError_exc3 => kit_is)
    (case v0_Keys_D_initD_ => k_is)
    (case nfst_Keys_D_eqD_ => k_is)
    (case nfst_Keys_D_eqD__non => k_is)
    (case nfst_Keys_D_eqD__bl => k_is)
    (case nfst_Keys_D_eqD__int => k_is)
    (case nfst_Keys_D_eqD__str => k_is)
    (case nfst_Keys_D_eqD__lst => k_is)
    (case nfst_Keys_D_eqD__tup => k_is)
    (case nfst_Keys_D_eqD__dct => k_is)
    (case nee_Keys => k_is)
    (case z_abs => k_is)
-- axioms of PySem.Challenge.cw_keyspans_k01_keys_and_what_they_tell_holds
