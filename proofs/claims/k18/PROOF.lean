import PyProof.Rows.All
import Wide.All
import OpenK.AllK
import Wide.FinOn
import HandS.ForMost
import HandS.Exc
import HandS.TryOnly
import HandS.ExcOwn
import HandS.Wide
import HandS.IsInst
import HandS.SortInts
import HandS.SetFor
import HandS.Comp
import HandS.Iter
import HandS.Zip
import HandS.CallLocal
import HandS.Conv
import KE.GoesMore
import KE.GoesEnum
import HandS.Strs
import KE.SortData
import KE.DataMinMax
import KE.DataEq
import HandS.TupLen
import HandS.SortKw
import HandS.Rev
import HandS.Deep
import PyProof.ListNew
import HandS.Style
import HandS.Text
import HandS.Replace
import HandS.ExcIs
import HandS.ExcField
import HandS.WordsExc
import HandS.ExcCtx
import HandS.Hot
import HandS.HotCalls
import HandS.ExcInitHot
import KE.KExcIs
import HandS.ExcInit
import HandS.ExcValue
import KE.KDictZip
import KE.KDictKeyed
import KE.KDictSum
import HandS.Flow
import PyProof.Rows.CountFlat
import HandS.TupSets
import HandS.RevTup
import HandS.TupAny
import PySem.Challenge.RW_mapdye_k18_refusals_made
import HandS.EndBits
set_option Elab.async false
set_option linter.all false
set_option maxRecDepth 100000
namespace M
open PySem PySem.Spec PyProof.Rows L2
abbrev Frag := PySem.W.Frag
abbrev St := L2.St
def Rs {α : Type} (R : V → α → Prop) : List V → List α → Prop
  | [], [] => True
  | v :: vs, x :: xs => R v x ∧ Rs R vs xs
  | _, _ => False
section
variable {α : Type} {R R' : V → α → Prop}
theorem Rs.len : ∀ {vs : List V} {xs : List α}, Rs R vs xs → vs.length = xs.length
  | [], [], _ => rfl
  | _ :: _, _ :: _, h => congrArg (· + 1) (Rs.len h.2)
  | [], _ :: _, h => h.elim
  | _ :: _, [], h => h.elim
theorem Rs.get : ∀ {vs : List V} {xs : List α} {i : Nat} {x : α}, Rs R vs xs → xs[i]? = some x → ∃ v, vs[i]? = some v ∧ R v x
  | v :: _, y :: _, 0, x, h, e => by simp at e; subst e; exact ⟨v, rfl, h.1⟩
  | _ :: vs, _ :: xs, i + 1, x, h, e => by simpa using Rs.get (i := i) h.2 (by simpa using e)
  | [], [], _, _, _, e => by simp at e
  | [], _ :: _, _, _, h, _ => h.elim
  | _ :: _, [], _, _, h, _ => h.elim
theorem Rs.mono (k : ∀ v x, R v x → R' v x) : ∀ {vs : List V} {xs : List α}, Rs R vs xs → Rs R' vs xs
  | [], [], _ => trivial
  | _ :: _, _ :: _, h => ⟨k _ _ h.1, Rs.mono k h.2⟩
  | [], _ :: _, h => h.elim
  | _ :: _, [], h => h.elim
theorem Rs.of : ∀ {vs : List V} {xs : List α}, vs.length = xs.length → (∀ (i : Nat) v x, vs[i]? = some v → xs[i]? = some x → R v x) → Rs R vs xs
  | [], [], _, _ => trivial
  | v :: vs, x :: xs, l, h => ⟨h 0 v x rfl rfl, Rs.of (by simpa using l) fun i v x a b => h (i + 1) v x (by simpa using a) (by simpa using b)⟩
  | [], _ :: _, l, _ => by simp at l
  | _ :: _, [], l, _ => by simp at l
theorem Rs.append : ∀ {vs ws : List V} {xs ys : List α}, Rs R vs xs → Rs R ws ys → Rs R (vs ++ ws) (xs ++ ys)
  | [], _, [], _, _, k => k
  | _ :: _, _, _ :: _, _, h, k => ⟨h.1, Rs.append h.2 k⟩
  | [], _, _ :: _, _, h, _ => h.elim
  | _ :: _, _, [], _, h, _ => h.elim
theorem Rs.take : ∀ {vs : List V} {xs : List α} (n : Nat), Rs R vs xs → Rs R (vs.take n) (xs.take n)
  | [], [], _, _ => by simp [Rs]
  | _ :: _, _ :: _, 0, _ => trivial
  | _ :: _, _ :: _, n + 1, h => ⟨h.1, Rs.take n h.2⟩
  | [], _ :: _, _, h => h.elim
  | _ :: _, [], _, h => h.elim
theorem Rs.drop : ∀ {vs : List V} {xs : List α} (n : Nat), Rs R vs xs → Rs R (vs.drop n) (xs.drop n)
  | [], [], _, _ => by simp [Rs]
  | _ :: _, _ :: _, 0, h => h
  | _ :: _, _ :: _, n + 1, h => Rs.drop n h.2
  | [], _ :: _, _, h => h.elim
  | _ :: _, [], _, h => h.elim
theorem Rs.set {v : V} {x : α} (r : R v x) : ∀ {vs : List V} {xs : List α} (i : Nat), Rs R vs xs → Rs R (vs.set i v) (xs.set i x)
  | [], [], _, _ => by simp [Rs]
  | _ :: _, _ :: _, 0, h => ⟨r, h.2⟩
  | _ :: _, _ :: _, n + 1, h => ⟨h.1, Rs.set r n h.2⟩
  | [], _ :: _, _, h => h.elim
  | _ :: _, [], _, h => h.elim
end
def cut {α : Type} (xs : List α) (lo hi : Option Int) : List α := (xs.drop (HT.sIx xs.length 0 lo)).take (HT.sIx xs.length xs.length hi - HT.sIx xs.length 0 lo)
theorem Rs.cut {α : Type} {R : V → α → Prop} {vs : List V} {xs : List α} (h : Rs R vs xs) (lo hi : Option Int) : Rs R (cutV vs lo hi) (cut xs lo hi) := by
  unfold cutV M.cut
  rw [h.len]
  exact (h.drop _).take _
class Rp (α : Type) where
  rp : Frag → Hp → V → α → Prop
  mono : ∀ {K : Frag} {F H : Hp} {v : V} {x : α}, Same F H → rp K F v x → rp K H v x
open Rp (rp)
class Sc (α : Type) extends Rp α where
  sc : ∀ {K : Frag} {F H : Hp} {v : V} {x : α}, rp K F v x → rp K H v x
instance : Sc Int := { rp := fun _ _ v x => v = .int x, mono := fun _ h => h, sc := fun h => h }
instance : Sc Bool := { rp := fun _ _ v x => v = .bl x, mono := fun _ h => h, sc := fun h => h }
instance : Sc Unit := { rp := fun _ _ v _ => v = .non, mono := fun _ h => h, sc := fun h => h }
instance : Sc Str := { rp := fun _ _ v x => v = .str x, mono := fun _ h => h, sc := fun h => h }
def rpOpt {α : Type} (r : V → α → Prop) (v : V) : Option α → Prop
  | none => v = .non
  | some y => r v y ∧ v ≠ .non
instance {α : Type} [Rp α] : Rp (Option α) := { rp := fun K H v x => rpOpt (rp K H) v x, mono := fun {K F H v x} s h => by cases x with
  | none => exact h
  | some y => exact ⟨Rp.mono s h.1, h.2⟩ }
instance {α : Type} [Sc α] : Sc (Option α) := { sc := fun {K F H v x} h => by cases x with
  | none => exact h
  | some y => exact ⟨Sc.sc (F := F) h.1, h.2⟩ }
theorem seqT {K : Frag} {H H' : Hp} {a : Addr} {xs : List V} (e : Same H H') (h : SqT K H a xs) : SqT K H' a xs := by
  rcases h with (h | ⟨o, h⟩) | h
  · exact .inl (.inl (e _ _ h))
  · exact .inl (.inr ⟨o, e _ _ h⟩)
  · exact .inr h
instance {α : Type} [Rp α] : Rp (List α) := {
  rp := fun K H v xs => ∃ a vs, v = .ref a ∧ H a = some (.lst vs) ∧ Rs (rp K H) vs xs
  mono := fun s ⟨a, vs, e, h, r⟩ => ⟨a, vs, e, s _ _ h, r.mono fun _ _ => Rp.mono s⟩ }
structure Script where
  ns : List Int
instance : Rp Script := {
  rp := fun K H v xs => ∃ a vs, v = .ref a ∧ SqL K H a vs ∧ Rs (rp K H) vs xs.ns
  mono := fun s ⟨a, vs, e, h, r⟩ => ⟨a, vs, e, s.seq h, r.mono fun _ _ => Rp.mono s⟩ }
structure Tu (α : Type) where
  l : List α
  deriving DecidableEq
instance {α : Type} [Rp α] : Rp (Tu α) := {
  rp := fun K H v xs => ∃ a vs, v = .ref a ∧ H a = some (.tup vs) ∧ Rs (rp K H) vs xs.l
  mono := fun s ⟨a, vs, e, h, r⟩ => ⟨a, vs, e, s _ _ h, r.mono fun _ _ => Rp.mono s⟩ }
instance {α β : Type} [Rp α] [Rp β] : Rp (α × β) := {
  rp := fun K H v x => ∃ a v1 v2, v = .ref a ∧ H a = some (.tup [v1, v2]) ∧ rp K H v1 x.1 ∧ rp K H v2 x.2
  mono := fun s ⟨a, v1, v2, e, h, r1, r2⟩ => ⟨a, v1, v2, e, s _ _ h, Rp.mono s r1, Rp.mono s r2⟩ }
structure T3 (α β γ : Type) where
  a : α
  b : β
  c : γ
  deriving DecidableEq
instance {α β γ : Type} [Rp α] [Rp β] [Rp γ] : Rp (T3 α β γ) := {
  rp := fun K H v x => ∃ a v1 v2 v3, v = .ref a ∧ H a = some (.tup [v1, v2, v3]) ∧ rp K H v1 x.a ∧ rp K H v2 x.b ∧ rp K H v3 x.c
  mono := fun s ⟨a, v1, v2, v3, e, h, r1, r2, r3⟩ => ⟨a, v1, v2, v3, e, s _ _ h, Rp.mono s r1, Rp.mono s r2, Rp.mono s r3⟩ }
structure T4 (α β γ δ : Type) where
  a : α
  b : β
  c : γ
  d : δ
  deriving DecidableEq
instance {α β γ δ : Type} [Rp α] [Rp β] [Rp γ] [Rp δ] : Rp (T4 α β γ δ) := {
  rp := fun K H v x => ∃ a v1 v2 v3 v4, v = .ref a ∧ H a = some (.tup [v1, v2, v3, v4]) ∧ rp K H v1 x.a ∧ rp K H v2 x.b ∧ rp K H v3 x.c ∧ rp K H v4 x.d
  mono := fun s ⟨a, v1, v2, v3, v4, e, h, r1, r2, r3, r4⟩ => ⟨a, v1, v2, v3, v4, e, s _ _ h, Rp.mono s r1, Rp.mono s r2, Rp.mono s r3, Rp.mono s r4⟩ }
class Nn (α : Type) [Rp α] : Prop where
  nn : ∀ {K : Frag} {H : Hp} {v : V} {x : α}, rp K H v x → v ≠ .non
instance : Nn Int := ⟨fun h => by rw [show _ = V.int _ from h]; simp⟩
instance : Nn Bool := ⟨fun h => by rw [show _ = V.bl _ from h]; simp⟩
instance : Nn Str := ⟨fun h => by rw [show _ = V.str _ from h]; simp⟩
instance {α : Type} [Rp α] : Nn (List α) := ⟨fun ⟨_, _, e, _⟩ => by rw [e]; simp⟩
instance {α : Type} [Rp α] : Nn (Tu α) := ⟨fun ⟨_, _, e, _⟩ => by rw [e]; simp⟩
instance {α β : Type} [Rp α] [Rp β] : Nn (α × β) := ⟨fun ⟨_, _, _, e, _⟩ => by rw [e]; simp⟩
instance {α β γ : Type} [Rp α] [Rp β] [Rp γ] : Nn (T3 α β γ) := ⟨fun ⟨_, _, _, _, e, _⟩ => by rw [e]; simp⟩
instance {α β γ δ : Type} [Rp α] [Rp β] [Rp γ] [Rp δ] : Nn (T4 α β γ δ) := ⟨fun ⟨_, _, _, _, _, e, _⟩ => by rw [e]; simp⟩
open Classical in
noncomputable def res (H : Hp) (P : Addr → Prop) : Hp := fun b => if P b then H b else none
theorem res_some {H : Hp} {P : Addr → Prop} {b : Addr} {o : HO} : res H P b = some o ↔ P b ∧ H b = some o := by
  unfold res; split <;> simp_all
theorem res_same {H : Hp} {P : Addr → Prop} : Same (res H P) H := fun b o h => (res_some.mp h).2
theorem res_mono {H H' : Hp} {P P' : Addr → Prop} (s : Same H H') (k : ∀ b, P b → P' b) : Same (res H P) (res H' P') := fun b o h => res_some.mpr ⟨k b (res_some.mp h).1, s _ _ (res_some.mp h).2⟩
theorem res_none {H : Hp} {P : Addr → Prop} {b : Addr} (h : ¬ P b) : res H P b = none := by unfold res; rw [if_neg h]
theorem same_upd {H : Hp} {p : Addr} {o : HO} (h : H p = none) : Same H (upd H p o) := fun b x e => by
  rw [upd_ne (ne_of_none e h)]; exact e
inductive Sup | fz | bo | pk
  deriving DecidableEq
def supp (B F H : Hp) : Sup → Addr → Prop
  | .fz, b => H b = none ∨ F b ≠ none
  | .bo, b => H b = none ∨ F b ≠ none ∨ B b ≠ none
  | .pk, _ => True
def Sup.le : Sup → Sup → Prop
  | .fz, _ => True
  | .bo, .fz => False
  | .bo, _ => True
  | .pk, .pk => True
  | .pk, _ => False
theorem supp_le {B F H : Hp} : ∀ {S T : Sup}, S.le T → ∀ b, supp B F H S b → supp B F H T b
  | .fz, .fz, _, _, h => h
  | .fz, .bo, _, _, h => h.elim .inl fun h => .inr (.inl h)
  | .fz, .pk, _, _, _ => trivial
  | .bo, .bo, _, _, h => h
  | .bo, .pk, _, _, _ => trivial
  | .pk, .pk, _, _, h => h
  | .bo, .fz, k, _, _ => k.elim
  | .pk, .fz, k, _, _ => k.elim
  | .pk, .bo, k, _, _ => k.elim
theorem supp_new {B F H : Hp} {b : Addr} (h : H b = none) : ∀ {S : Sup}, supp B F H S b
  | .fz => .inl h
  | .bo => .inl h
  | .pk => trivial
theorem supp_grow {B F H H' : Hp} (s : Same H H') : ∀ {S : Sup} {b : Addr}, supp B F H' S b → supp B F H S b
  | .fz, _, h => h.imp (fun e => s.free e) id
  | .bo, _, h => h.imp (fun e => s.free e) id
  | .pk, _, _ => trivial
structure Sl (K : Frag) where
  p : Hp → Hp → Hp → List Addr → Option V → Prop
  fr : ∀ {B F F' H H' : Hp} {A : List Addr} {sv : Option V}, p B F H A sv → Same F F' → (∀ a ∈ A, H' a = H a) → p B F' H' A sv
  lv : ∀ {B F H : Hp} {A : List Addr} {sv : Option V}, p B F H A sv → ∀ a ∈ A, H a ≠ none
variable {K : Frag}
def un : Sl K := ⟨fun _ _ _ A _ => A = [], fun h _ _ => h, fun h a ha => by rw [h] at ha; cases ha⟩
def bot : Sl K := ⟨fun _ _ _ _ _ => False, fun h _ _ => h, fun h => h.elim⟩
def fz {α : Type} [Rp α] (x : α) : Sl K := ⟨fun _ F _ A sv => A = [] ∧ ∃ v, sv = some v ∧ rp K F v x, fun ⟨e, v, e2, r⟩ s _ => ⟨e, v, e2, Rp.mono s r⟩, fun h a ha => by rw [h.1] at ha; cases ha⟩
def bo {α : Type} [Rp α] (x : α) : Sl K := ⟨fun B F _ A sv => A = [] ∧ ∃ v G, sv = some v ∧ rp K G v x ∧ ∀ b o, G b = some o → F b = some o ∨ B b = some o,
  fun ⟨e, v, G, e2, r, g⟩ s _ => ⟨e, v, G, e2, r, fun b o h => (g b o h).imp (fun z => s _ _ z) id⟩, fun h a ha => by rw [h.1] at ha; cases ha⟩
def oL {α : Type} [Rp α] (w : V → Prop) (xs : List α) : Sl K := ⟨fun _ F H A sv => ∃ a vs, A = [a] ∧ sv = some (.ref a) ∧ w (.ref a) ∧ H a = some (.lst vs) ∧ Rs (rp K F) vs xs,
  fun ⟨a, vs, e, e2, ww, h, r⟩ s k => ⟨a, vs, e, e2, ww, (k a (by rw [e]; simp)).trans h, r.mono fun _ _ => Rp.mono s⟩,
  fun ⟨a, vs, e, e2, ww, h, r⟩ b hb => by rw [e] at hb; rw [show b = a by simpa using hb, h]; simp⟩
abbrev any : V → Prop := fun _ => True
inductive Mt (B F H : Hp) : List (Sl K) → List (List Addr) → St → Prop
  | nil : Mt B F H [] [] []
  | cons {s : Sl K} {Γ : List (Sl K)} {A : List Addr} {As : List (List Addr)} {v : Option V} {σ : St} : s.p B F H A v → Mt B F H Γ As σ → Mt B F H (s :: Γ) (A :: As) (v :: σ)
section
variable {B F F' H H' : Hp} {Γ : List (Sl K)} {As : List (List Addr)} {σ : St}
theorem Mt.fr (m : Mt B F H Γ As σ) (s : Same F F') (k : ∀ a ∈ As.flatten, H' a = H a) : Mt B F' H' Γ As σ := by
  induction m with
  | nil => exact .nil
  | cons h _ ih =>
    exact .cons (Sl.fr _ h s fun a ha => k a (by simp [ha])) (ih fun a ha => k a (by rw [List.flatten_cons]; exact List.mem_append_right _ ha))
theorem Mt.lv (m : Mt B F H Γ As σ) : ∀ a ∈ As.flatten, H a ≠ none := by
  induction m with
  | nil => intro a ha; simp at ha
  | cons h _ ih =>
    intro a ha
    rw [List.flatten_cons] at ha
    rcases List.mem_append.mp ha with ha | ha
    · exact Sl.lv _ h a ha
    · exact ih a ha
theorem Mt.get (m : Mt B F H Γ As σ) : ∀ {i : Nat} {s : Sl K}, Γ[i]? = some s → ∃ A v, As[i]? = some A ∧ σ[i]? = some v ∧ s.p B F H A v := by
  induction m with
  | nil => intro i s e; simp at e
  | @cons s0 _ A _ v _ h _ ih =>
    intro i s e
    cases i with
    | zero => simp at e; subst e; exact ⟨A, v, rfl, rfl, h⟩
    | succ i => simpa using ih (i := i) (by simpa using e)
theorem Mt.set {s : Sl K} {A : List Addr} {v : Option V} (h : s.p B F H A v) (m : Mt B F H Γ As σ) : ∀ i : Nat, Mt B F H (Γ.set i s) (As.set i A) (σ.set i v) := by
  induction m with
  | nil => intro i; simp; exact .nil
  | cons h0 m ih =>
    intro i
    cases i with
    | zero => exact .cons h m
    | succ i => exact .cons h0 (ih i)
theorem Mt.lens (m : Mt B F H Γ As σ) : As.length = Γ.length ∧ σ.length = Γ.length := by
  induction m with
  | nil => exact ⟨rfl, rfl⟩
  | cons _ _ ih => exact ⟨by simp [ih.1], by simp [ih.2]⟩
end
theorem mem_flat_set {As : List (List Addr)} {A : List Addr} {i : Nat} {a : Addr} (h : a ∈ (As.set i A).flatten) : a ∈ A ∨ a ∈ As.flatten := by
  obtain ⟨l, hl, ha⟩ := List.mem_flatten.mp h
  rcases List.mem_or_eq_of_mem_set hl with hl | rfl
  · exact .inr (List.mem_flatten.mpr ⟨l, hl, ha⟩)
  · exact .inl ha
theorem nodup_flat_set {A : List Addr} (hA : A.Nodup) : ∀ {As : List (List Addr)} (i : Nat), As.flatten.Nodup → (∀ a ∈ A, a ∉ As.flatten) → (As.set i A).flatten.Nodup
  | [], _, _, _ => by simp
  | B :: As, 0, h, d => by
    rw [List.flatten_cons, List.nodup_append] at h
    show (A :: As).flatten.Nodup
    rw [List.flatten_cons, List.nodup_append]
    refine ⟨hA, h.2.1, fun x hx y hy e => ?_⟩
    subst e
    exact d x hx (by rw [List.flatten_cons]; exact List.mem_append_right _ hy)
  | B :: As, i + 1, h, d => by
    rw [List.flatten_cons, List.nodup_append] at h
    show (B :: As.set i A).flatten.Nodup
    rw [List.flatten_cons, List.nodup_append]
    refine ⟨h.1, nodup_flat_set hA i h.2.1 fun a ha z => d a ha (by rw [List.flatten_cons]; exact List.mem_append_right _ z), fun x hx y hy e => ?_⟩
    subst e
    rcases mem_flat_set hy with hy | hy
    · exact d x hy (by rw [List.flatten_cons]; exact List.mem_append_left _ hx)
    · exact h.2.2 x hx x hy rfl
structure Ok (B F : Hp) (Γ : List (Sl K)) (As : List (List Addr)) (σ : St) (H : Hp) : Prop where
  mt : Mt B F H Γ As σ
  sb : Same B H
  sf : Same F H
  nd : As.flatten.Nodup
  ff : ∀ a ∈ As.flatten, F a = none
  fb : ∀ a ∈ As.flatten, B a = none
section
variable {B F F' H H' : Hp} {Γ : List (Sl K)} {As : List (List Addr)} {σ : St}
theorem Ok.eqs (ok : Ok B F Γ As σ H) (s : Same H H') : ∀ a ∈ As.flatten, H' a = H a := fun a ha => by
  have := ok.mt.lv a ha
  cases e : H a with
  | none => exact absurd e this
  | some o => exact s _ _ e
theorem Ok.grow (ok : Ok B F Γ As σ H) (s : Same H H') : Ok B F Γ As σ H' :=
  ⟨ok.mt.fr (Same.refl _) (ok.eqs s), ok.sb.trans s, ok.sf.trans s, ok.nd, ok.ff, ok.fb⟩
theorem Ok.freeze (ok : Ok B F Γ As σ H) (s : Same H H') : Ok B (res H' (supp B F H .fz)) Γ As σ H' :=
  ⟨ok.mt.fr (fun b o h => res_some.mpr ⟨.inr (by rw [h]; simp), s _ _ (ok.sf _ _ h)⟩) (ok.eqs s), ok.sb.trans s, res_same, ok.nd,
    fun a ha => res_none fun z => z.elim (fun z => ok.mt.lv a ha z) fun z => z (ok.ff a ha), ok.fb⟩
end
structure Asr (K : Frag) where
  p : Hp → Hp → V → Prop
  mono : ∀ {G G' H H' : Hp} {v : V}, p G H v → Same G G' → Same H H' → p G' H' v
def va {α : Type} [Rp α] (x : α) : Asr K := ⟨fun G _ v => rp K G v x, fun h s _ => Rp.mono s h⟩
def la {α : Type} [Rp α] (xs : List α) : Asr K := ⟨fun G H v => ∃ a vs, v = .ref a ∧ SqL K H a vs ∧ Rs (rp K G) vs xs, fun ⟨a, vs, e, h, r⟩ s s' => ⟨a, vs, e, s'.seq h, r.mono fun _ _ => Rp.mono s⟩⟩
def lo {α : Type} [Rp α] (xs : List α) : Asr K := ⟨fun G H v => ∃ a vs, v = .ref a ∧ H a = some (.lst vs) ∧ Rs (rp K G) vs xs, fun ⟨a, vs, e, h, r⟩ s s' => ⟨a, vs, e, s' _ _ h, r.mono fun _ _ => Rp.mono s⟩⟩
def tEv (Γ : List (Sl K)) (S : Sup) (φ : Asr K) : TE := fun σ H Q => ∃ B F As, Ok B F Γ As σ H ∧ ∀ v H', Same H H' → φ.p (res H' (supp B F H S)) H' v → Q v H'
def Ev (X : Cx) (Γ : List (Sl X.K)) (e : Expr) (S : Sup) (φ : Asr X.K) : Prop := PE X e (tEv Γ S φ)
def tEvN {α : Type} [Rp α] (Γ : List (Sl K)) (S : Sup) (xs : List α) : TE := fun σ H Q => ∃ B F As, Ok B F Γ As σ H ∧
  ∀ a vs H1, Same H H1 → H1 a = none → Rs (rp K (res H1 (supp B F H S))) vs xs → Q (.ref a) (upd H1 a (.lst vs))
def EvN {α : Type} [Rp α] (X : Cx) (Γ : List (Sl X.K)) (e : Expr) (S : Sup) (xs : List α) : Prop := PE X e (tEvN Γ S xs)
def tEvO (Γ : List (Sl K)) (s : Sl K) : TE := fun σ H Q => ∃ B F As, Ok B F Γ As σ H ∧
  ∀ v H' A F', Same H H' → Same F F' → Same F' H' → (∀ b, F' b ≠ none → F b ≠ none ∨ H b = none) → (∀ a ∈ A, H a = none ∧ F' a = none) → A.Nodup → s.p B F' H' A (some v) → Q v H'
def EvO (X : Cx) (Γ : List (Sl X.K)) (e : Expr) (s : Sl X.K) : Prop := PE X e (tEvO Γ s)
theorem PE.imp {X : Cx} {e : Expr} {t t' : TE} (h : PE X e t) (k : ∀ σ H Q, t' σ H Q → t σ H Q) : PE X e t' := ⟨fun pins s σ H Q I q => h.run pins s σ H Q I (k σ H Q q)⟩
theorem PT.imp {X : Cx} {e : Expr} {t t' : TT} (h : PT X e t) (k : ∀ σ H Q, t' σ H Q → t σ H Q) : PT X e t' := ⟨fun pins s σ H Q I q => h.run pins s σ H Q I (k σ H Q q)⟩
theorem PSs.imp {X : Cx} {e : List Stmt} {t t' : TS} (h : PSs X e t) (k : ∀ D σ H, t' D σ H → t D σ H) : PSs X e t' := ⟨fun pins s σ H Q I q => h.run pins s σ H Q I (k Q σ H q)⟩
theorem PS.imp {X : Cx} {e : Stmt} {t t' : TS} (h : PS X e t) (k : ∀ D σ H, t' D σ H → t D σ H) : PS X e t' := ⟨fun pins s σ H Q I q => h.run pins s σ H Q I (k Q σ H q)⟩
section
variable {X : Cx} {Γ : List (Sl X.K)} {e a b c : Expr} {S T : Sup} {φ ψ χ : Asr X.K} {α β : Type} [Rp α] [Rp β]
theorem Ev.up (h : Ev X Γ e S φ) (l : S.le T) : Ev X Γ e T φ := PE.imp h fun σ H Q ⟨B, F, As, ok, q⟩ => ⟨B, F, As, ok, fun v H' s p => q v H' s (φ.mono p (res_mono (Same.refl _) (supp_le l)) (Same.refl _))⟩
theorem Ev.imp (h : Ev X Γ e S φ) (k : ∀ G H v, Same G H → φ.p G H v → ψ.p G H v) : Ev X Γ e S ψ := PE.imp h fun σ H Q ⟨B, F, As, ok, q⟩ => ⟨B, F, As, ok, fun v H' s p => q v H' s (k _ _ _ res_same p)⟩
theorem Ev.vlo {xs : List α} (h : Ev X Γ e S (va xs)) : Ev X Γ e S (lo xs) := h.imp fun G H v s ⟨a, vs, e, h, r⟩ => ⟨a, vs, e, s _ _ h, r⟩
theorem Ev.lla {xs : List α} (h : Ev X Γ e S (lo xs)) : Ev X Γ e S (la xs) := h.imp fun G H v s ⟨a, vs, e, h, r⟩ => ⟨a, vs, e, SqL.of h, r⟩
theorem Ev.las {s : Script} (h : Ev X Γ e S (va s)) : Ev X Γ e S (la s.ns) := h.imp fun G H v s ⟨a, vs, e, h, r⟩ => ⟨a, vs, e, s.seq h, r⟩
theorem Ev.sc {γ : Type} [Sc γ] {x : γ} (h : Ev X Γ e S (va x)) : Ev X Γ e T (va x) := PE.imp h fun σ H Q ⟨B, F, As, ok, q⟩ => ⟨B, F, As, ok, fun v H' s p => q v H' s (Sc.sc p)⟩
theorem EvN.ev {xs : List α} (h : EvN X Γ e S xs) : Ev X Γ e S (va xs) := PE.imp h fun σ H Q ⟨B, F, As, ok, q⟩ => ⟨B, F, As, ok, fun p vs H1 s n r =>
  q _ _ (s.trans (same_upd n)) ⟨p, vs, rfl, res_some.mpr ⟨supp_new (s.free n), upd_same⟩, r.mono fun _ _ => Rp.mono (res_mono (same_upd n) fun _ z => z)⟩⟩
theorem EvN.own {xs : List α} (h : EvN X Γ e .fz xs) : EvO X Γ e (oL any xs) := PE.imp h fun σ H Q ⟨B, F, As, ok, q⟩ => ⟨B, F, As, ok, fun p vs H1 s n r =>
  q _ _ [p] (res H1 (supp B F H .fz)) (s.trans (same_upd n)) (fun b o h => res_some.mpr ⟨.inr (by rw [h]; simp), s _ _ (ok.sf _ _ h)⟩) (res_same.trans (same_upd n))
    (fun b h => by
      have z : supp B F H .fz b := Classical.byContradiction fun z => h (res_none z)
      exact z.elim .inr .inl)
    (fun b hb => by
      have z : b = p := by simpa using hb
      subst z
      refine ⟨s.free n, ?_⟩
      cases e : res H1 (supp B F H .fz) b with
      | none => rfl
      | some o => rw [(res_some.mp e).2] at n; cases n) (by simp) ⟨p, vs, rfl, rfl, trivial, upd_same, r⟩⟩
theorem Ev.own {x : α} (h : Ev X Γ e .fz (va x)) : EvO X Γ e (fz x) := PE.imp h fun σ H Q ⟨B, F, As, ok, q⟩ => ⟨B, F, As, ok, fun v H' s p =>
  q v H' [] (res H' (supp B F H .fz)) s (fun b o h => res_some.mpr ⟨.inr (by rw [h]; simp), s _ _ (ok.sf _ _ h)⟩) res_same
    (fun b h => by
      have z : supp B F H .fz b := Classical.byContradiction fun z => h (res_none z)
      exact z.elim .inr .inl) (fun b hb => by cases hb) List.nodup_nil ⟨rfl, v, rfl, p⟩⟩
end
open PySem PySem.Spec PyProof.Rows L2
open Rp (rp)
def divI (a b : Int) : Option Int := if 0 < b ∧ b.natAbs.log2 < 9000 then some (a / b) else none
def modI (a b : Int) : Option Int := if 0 < b then some (a % b) else none
def catL {α : Type} (xs ys : List α) : Option (List α) := if xs.length + ys.length ≤ sizeLine then some (xs ++ ys) else none
section
variable {X : Cx} {Γ : List (Sl X.K)} {e a b c : Expr} {S T : Sup} {φ ψ χ : Asr X.K} {α β : Type} [Rp α] [Rp β] {pos : Pos} {x y : Int}
theorem Ev.nm (i : Nat) {x : α} {n : Str} (hΓ : Γ[i]? = some (fz x) := by rfl) (hN : X.N[i]? = some n := by rfl) (hv : Vis X.env.scope n := by first | exact Or.inl rfl | exact Or.inr (Or.inl rfl) | exact Or.inr (Or.inr rfl))
    (hd : (n == ("__debug__" : Str)) = false := by decide) (hcd : (n == ("__classdict__" : Str)) = false := by decide) : Ev X Γ (.Name n pos) .fz (va x) := by
  refine PE.imp (pe_var hN hv hd hcd) fun σ H Q ⟨B, F, As, ok, q⟩ => ?_
  obtain ⟨A, v, hA, hs, _, w, e, r⟩ := ok.mt.get hΓ
  subst e
  exact ⟨w, hs, q w H (Same.refl _) (Rp.mono (fun b o h => res_some.mpr ⟨.inr (by rw [h]; simp), ok.sf _ _ h⟩) r)⟩
theorem Ev.nmB (i : Nat) {x : α} {n : Str} (hΓ : Γ[i]? = some (bo x) := by rfl) (hN : X.N[i]? = some n := by rfl) (hv : Vis X.env.scope n := by first | exact Or.inl rfl | exact Or.inr (Or.inl rfl) | exact Or.inr (Or.inr rfl))
    (hd : (n == ("__debug__" : Str)) = false := by decide) (hcd : (n == ("__classdict__" : Str)) = false := by decide) : Ev X Γ (.Name n pos) .bo (va x) := by
  refine PE.imp (pe_var hN hv hd hcd) fun σ H Q ⟨B, F, As, ok, q⟩ => ?_
  obtain ⟨A, v, hA, hs, _, w, G, e, r, g⟩ := ok.mt.get hΓ
  subst e
  refine ⟨w, hs, q w H (Same.refl _) (Rp.mono (fun b o h => ?_) r)⟩
  rcases g b o h with h | h
  · exact res_some.mpr ⟨.inr (.inl (by rw [h]; simp)), ok.sf _ _ h⟩
  · exact res_some.mpr ⟨.inr (.inr (by rw [h]; simp)), ok.sb _ _ h⟩
theorem Ev.int {i : Int} {j} : Ev X Γ (.Constant (.int i) j pos) S (va i) := PE.imp pe_int fun σ H Q ⟨B, F, As, ok, q⟩ => q _ H (Same.refl _) rfl
theorem Ev.bl {i : Bool} {j} : Ev X Γ (.Constant (.bool i) j pos) S (va i) := PE.imp pe_bl fun σ H Q ⟨B, F, As, ok, q⟩ => q _ H (Same.refl _) rfl
theorem Ev.str {i : Str} {j} : Ev X Γ (.Constant (.str i) j pos) S (va i) := PE.imp pe_str fun σ H Q ⟨B, F, As, ok, q⟩ => q _ H (Same.refl _) rfl
theorem Ev.non {j} : Ev X Γ (.Constant .none j pos) S (va (none : Option α)) := PE.imp pe_non fun σ H Q ⟨B, F, As, ok, q⟩ => q _ H (Same.refl _) rfl
theorem Ev.eq {x y : α} (h : Ev X Γ e S (va x)) (k : x = y) : Ev X Γ e S (va y) := k ▸ h
theorem Ev.op2 {op : Operator} {r : R2} (hr : OpR X (binaryOp op) r) (ha : Ev X Γ a S φ) (hb : Ev X Γ b S ψ)
    (h : ∀ (P : Addr → Prop) H x y Q, (∀ b, H b = none → P b) → φ.p (res H P) H x → ψ.p (res H P) H y → (∀ v H', Same H H' → χ.p (res H' P) H' v → Q v H') → r x y H Q) : Ev X Γ (.BinOp a op b pos) S χ :=
  PE.imp (pe_op hr ha hb) fun σ H Q ⟨B, F, As, ok, q⟩ => ⟨B, F, As, ok, fun x H1 s1 p1 => ⟨B, F, As, ok.grow s1, fun y H2 s2 p2 =>
    h (supp B F H S) H2 x y Q (fun b hb => supp_new ((s1.trans s2).free hb)) (φ.mono p1 (res_mono s2 fun _ z => z) s2) (ψ.mono p2 (res_mono (Same.refl _) fun _ z => supp_grow s1 z) (Same.refl _))
      fun v H3 s3 p3 => q v H3 ((s1.trans s2).trans s3) p3⟩⟩
theorem Ev.op2N {op : Operator} {r : R2} {zs : List β} (hr : OpR X (binaryOp op) r) (ha : Ev X Γ a S φ) (hb : Ev X Γ b S ψ)
    (h : ∀ (P : Addr → Prop) H x y Q, φ.p (res H P) H x → ψ.p (res H P) H y → (∀ a vs, H a = none → Rs (rp X.K (res H P)) vs zs → Q (.ref a) (upd H a (.lst vs))) → r x y H Q) : EvN X Γ (.BinOp a op b pos) S zs :=
  PE.imp (pe_op hr ha hb) fun σ H Q ⟨B, F, As, ok, q⟩ => ⟨B, F, As, ok, fun x H1 s1 p1 => ⟨B, F, As, ok.grow s1, fun y H2 s2 p2 =>
    h (supp B F H S) H2 x y Q (φ.mono p1 (res_mono s2 fun _ z => z) s2) (ψ.mono p2 (res_mono (Same.refl _) fun _ z => supp_grow s1 z) (Same.refl _))
      fun v vs n r => q v vs H2 (s1.trans s2) n r⟩⟩
theorem Ev.rI {op : Operator} {C : Int → Int → Prop} {f : Int → Int → Int} (hr : OpR X (binaryOp op) (L2.rI C fun i j => .int (f i j))) (ha : Ev X Γ a S (va x)) (hb : Ev X Γ b S (va y)) (hC : C x y) : Ev X Γ (.BinOp a op b pos) S (va (f x y)) :=
  Ev.op2 hr ha hb fun P H v w Q _ p1 p2 q => ⟨x, y, p1, p2, hC, q _ H (Same.refl _) rfl⟩
theorem Ev.add (ha : Ev X Γ a S (va x)) (hb : Ev X Γ b S (va y)) : Ev X Γ (.BinOp a .Add b pos) S (va (x + y)) := Ev.op2 op_add ha hb fun P H v w Q _ p1 p2 q => ⟨x, y, p1, p2, q _ H (Same.refl _) rfl⟩
theorem Ev.sub (ha : Ev X Γ a S (va x)) (hb : Ev X Γ b S (va y)) : Ev X Γ (.BinOp a .Sub b pos) S (va (x - y)) := Ev.op2 op_sub ha hb fun P H v w Q _ p1 p2 q => ⟨x, y, p1, p2, q _ H (Same.refl _) rfl⟩
theorem Ev.div {z : Int} (ha : Ev X Γ a S (va x)) (hb : Ev X Γ b S (va y)) (h : divI x y = some z) : Ev X Γ (.BinOp a .FloorDiv b pos) S (va z) := by
  unfold divI at h
  split at h
  · rename_i hc
    cases h
    exact Ev.rI op_fdivW ha hb hc
  · cases h
theorem Ev.divC (ha : Ev X Γ a S (va x)) (hb : Ev X Γ b S (va y)) (h : 0 < y ∧ y.natAbs.log2 < 9000) : Ev X Γ (.BinOp a .FloorDiv b pos) S (va (x / y)) := Ev.rI op_fdivW ha hb h
theorem Ev.modC (ha : Ev X Γ a S (va x)) (hb : Ev X Γ b S (va y)) (h : 0 < y) : Ev X Γ (.BinOp a .Mod b pos) S (va (x % y)) := by
  have := Ev.rI (pos := pos) op_modN ha hb (show y ≠ 0 by omega)
  rwa [Int.fmod_eq_emod_of_nonneg _ (by omega)] at this
theorem Ev.mod {z : Int} (ha : Ev X Γ a S (va x)) (hb : Ev X Γ b S (va y)) (h : modI x y = some z) : Ev X Γ (.BinOp a .Mod b pos) S (va z) := by
  unfold modI at h
  split at h
  · rename_i hc
    cases h
    exact Ev.modC ha hb hc
  · cases h
theorem EvN.cat {xs ys zs : List α} (ha : Ev X Γ a S (lo xs)) (hb : Ev X Γ b S (lo ys)) (h : catL xs ys = some zs) : EvN X Γ (.BinOp a .Add b pos) S zs := by
  unfold catL at h
  split at h
  · rename_i hc
    cases h
    refine Ev.op2N op_cat ha hb fun P H v w Q p1 p2 q => ?_
    obtain ⟨l, vs, e1, h1, r1⟩ := p1
    obtain ⟨m, ws, e2, h2, r2⟩ := p2
    exact ⟨l, m, vs, ws, e1, e2, h1, h2, by rw [r1.len, r2.len]; exact hc, fun p hp => q p _ hp (r1.append r2)⟩
  · cases h
def EvC (X : Cx) (Γ : List (Sl X.K)) (op : CmpOp) (a b : Expr) (x : Bool) : Prop := PC X op a b (tEv Γ .pk (va x))
theorem EvC.ev {op : CmpOp} {x : Bool} (h : EvC X Γ op a b x) (h1 : behindInMarks op b = false := by first | exact nobehind _ (by decide) (by decide) | rfl) : Ev X Γ (.Compare a [op] [b] pos) S (va x) := Ev.sc (S := .pk) (pe_cmp h h1)
theorem pc_of {op : CmpOp} {r : R2} {ta tb : TE} (hr : OpR X (compareOp op) r) (ha : PE X a ta) (hb : PE X b tb) : PC X op a b (tOp r ta tb) := by
  refine ⟨fun pins s σ H Q I h => ?_⟩
  exact bin ha hb I h fun v u s2 x y H2 I2 rx ry q => hr pins s2 σ H2 x y v u Q I2 rx ry q
theorem EvC.op2 {op : CmpOp} {r : R2} {x : Bool} (hr : OpR X (compareOp op) r) (ha : Ev X Γ a S φ) (hb : Ev X Γ b T ψ)
    (h : ∀ G G' H v w Q, Same G H → Same G' H → φ.p G H v → ψ.p G' H w → Q (.bl x) H → r v w H Q) : EvC X Γ op a b x := by
  refine ⟨fun pins s σ H Q I hq => (pc_of hr ha hb).run pins s σ H Q I ?_⟩
  obtain ⟨B, F, As, ok, q⟩ := hq
  exact ⟨B, F, As, ok, fun v H1 s1 p1 => ⟨B, F, As, ok.grow s1, fun w H2 s2 p2 => h _ _ H2 v w Q (res_same.trans s2) res_same (φ.mono p1 (Same.refl _) s2) p2 (q _ H2 (s1.trans s2) rfl)⟩⟩
theorem EvC.le (ha : Ev X Γ a S (va x)) (hb : Ev X Γ b T (va y)) : EvC X Γ .LtE a b (decide (x ≤ y)) := EvC.op2 op_le ha hb fun _ _ _ _ _ _ _ _ p1 p2 q => ⟨x, y, p1, p2, q⟩
theorem EvC.ge (ha : Ev X Γ a S (va x)) (hb : Ev X Γ b T (va y)) : EvC X Γ .GtE a b (decide (y ≤ x)) := EvC.op2 op_ge ha hb fun _ _ _ _ _ _ _ _ p1 p2 q => ⟨x, y, p1, p2, q⟩
class Eqs (α : Type) [Rp α] [DecidableEq α] : Prop where
  eqs : ∀ {K : Frag} {H H' : Hp} {v w : V} {x y : α}, rp K H v x → rp K H' w y → scal v w = true ∧ decide (v = w) = decide (x = y)
instance : Eqs Int := ⟨fun {K H H' v w x y} p1 p2 => by cases p1; cases p2; exact ⟨rfl, by simp⟩⟩
instance : Eqs Bool := ⟨fun {K H H' v w x y} p1 p2 => by cases p1; cases p2; exact ⟨rfl, by simp⟩⟩
instance : Eqs Str := ⟨fun {K H H' v w x y} p1 p2 => by cases p1; cases p2; exact ⟨rfl, by simp⟩⟩
theorem EvC.eqs [DecidableEq α] [Eqs α] {x y : α} (ha : Ev X Γ a S (va x)) (hb : Ev X Γ b T (va y)) : EvC X Γ .Eq a b (decide (x = y)) := EvC.op2 op_eq ha hb fun _ _ _ _ _ _ _ _ p1 p2 q => ⟨(Eqs.eqs p1 p2).1, by rw [(Eqs.eqs p1 p2).2]; exact q⟩
class De (α : Type) [Rp α] [DecidableEq α] where
  enc : α → PyData
  n : Nat
  dp : ∀ {K : Frag} {H : Hp} {v : V} {x : α}, rp K H v x → Dp K H v (enc x)
  lay : ∀ x : α, (enc x).canLay0 = true
  dep : ∀ x : α, (enc x).depth ≤ n
  eqv : ∀ x y : α, PyData.eqv (enc x) (enc y) = decide (x = y)
theorem De.shaped [DecidableEq α] [D : De α] (h : De.n α ≤ 64) (x : α) : SeqAt.shaped (De.enc x) = true := by
  unfold SeqAt.shaped
  rw [De.lay x, decide_eq_true (Nat.le_trans (De.dep x) h)]
  rfl
theorem EvC.ned [DecidableEq α] [De α] {x y : α} (hu : X.A.units + 64 < cLine) (ha : Ev X Γ a S (va x)) (hb : Ev X Γ b T (va y)) (hn : De.n α ≤ 64 := by decide) : EvC X Γ .NotEq a b (!decide (x = y)) := EvC.op2 (op_neD hu) ha hb fun _ _ _ _ _ _ s s' p1 p2 q =>
  ⟨De.enc x, De.enc y, De.dp (Rp.mono s p1), De.dp (Rp.mono s' p2), De.shaped hn x, De.shaped hn y, by rw [De.eqv]; exact q⟩
class Fl1 (α : Type) [Rp α] [DecidableEq α] : Prop where
  flat : ∀ {K : Frag} {H : Hp} {v : V} {x : α}, rp K H v x → flatV v = true
  eqv : ∀ {K : Frag} {H H' : Hp} {v w : V} {x y : α}, rp K H v x → rp K H' w y → eqV v w = decide (x = y)
instance : Fl1 Int := ⟨fun h => by cases h; rfl, fun p1 p2 => by cases p1; cases p2; simp [eqV, Bool.beq_eq_decide_eq]⟩
instance : Fl1 Str := ⟨fun h => by cases h; rfl, fun p1 p2 => by cases p1; cases p2; simp [eqV, Bool.beq_eq_decide_eq]⟩
instance : Fl1 (Option Int) := ⟨fun {K H v x} h => by
    cases x with
    | none => cases h; rfl
    | some y => cases h.1; rfl, fun {K H H' v w x y} p1 p2 => by
    cases x with
    | none =>
      cases p1
      cases y with
      | none => cases p2; rfl
      | some y => cases p2.1; simp [eqV]
    | some x =>
      cases p1.1
      cases y with
      | none => cases p2; simp [eqV]
      | some y => cases p2.1; simp [eqV, Bool.beq_eq_decide_eq]⟩
theorem in_flat [DecidableEq α] [Fl1 α] {K : Frag} {H G : Hp} {x : α} {v : V} (r : rp K H v x) : ∀ {vs : List V} {xs : List α}, Rs (rp K G) vs xs → vs.all flatV = true ∧ inV v vs = decide (x ∈ xs)
  | [], [], _ => ⟨rfl, by simp [inV]⟩
  | w :: vs, y :: xs, h => by
    obtain ⟨i1, i2⟩ := in_flat r (vs := vs) (xs := xs) h.2
    refine ⟨by rw [List.all_cons, Fl1.flat h.1, i1]; rfl, ?_⟩
    unfold inV at i2 ⊢
    rw [List.any_cons, i2, Fl1.eqv h.1 r]
    by_cases e : y = x
    · subst e; simp
    · have e' : ¬ x = y := fun z => e z.symm
      simp [e, e', List.mem_cons]
  | [], _ :: _, h => h.elim
  | _ :: _, [], h => h.elim
theorem EvC.inl [DecidableEq α] [Fl1 α] {x : α} {xs : List α} (ha : Ev X Γ a S (va x)) (hb : Ev X Γ b T (la xs)) : EvC X Γ .In a b (decide (x ∈ xs)) := EvC.op2 op_in_seq ha hb fun _ _ _ v _ _ _ _ p1 ⟨l, vs, e, h, r⟩ q =>
  ⟨l, vs, e, .inl h, Fl1.flat p1, (in_flat p1 r).1, by rw [if_neg (by simp), (in_flat p1 r).2]; exact q⟩
def tEvT {K : Frag} (Γ : List (Sl K)) (x : Bool) : TT := fun σ H Q => ∃ B F As, Ok B F Γ As σ H ∧ ∀ H', Same H H' → Q x H'
def EvT (X : Cx) (Γ : List (Sl X.K)) (e : Expr) (x : Bool) : Prop := PT X e (tEvT Γ x)
variable {p q : Bool}
theorem EvC.t {op : CmpOp} (h : EvC X Γ op a b p) (h1 : behindInMarks op b = false := by first | exact nobehind _ (by decide) (by decide) | rfl) : EvT X Γ (.Compare a [op] [b] pos) p := PT.imp (pt_cmp h h1) fun σ H Q ⟨B, F, As, ok, q⟩ => ⟨B, F, As, ok, fun v H' s r => ⟨p, r, q H' s⟩⟩
theorem Ev.t (h : Ev X Γ e S (va p)) (he : ∀ whole, isTrue e X.env whole = (do let v ← whole; standAt e.pos; holding [v] (truthy v)) := by intro _; rfl) : EvT X Γ e p := PT.imp (pt_val h he) fun σ H Q ⟨B, F, As, ok, q⟩ => ⟨B, F, As, ok, fun v H' s r => ⟨p, r, q H' s⟩⟩
theorem EvT.not (h : EvT X Γ e p) : EvT X Γ (.UnaryOp .Not e pos) (!p) := PT.imp (pt_not h) fun σ H Q ⟨B, F, As, ok, q⟩ => ⟨B, F, As, ok, q⟩
def EvW (X : Cx) (Γ : List (Sl X.K)) (e : Expr) (x : Bool) : Prop := PW X e (tEvT Γ x)
theorem EvW.t (h : EvW X Γ e p) : EvT X Γ e p := PW.pt h
theorem PW.imp {X : Cx} {e : Expr} {t t' : TT} (h : PW X e t) (k : ∀ σ H Q, t' σ H Q → t σ H Q) : PW X e t' := ⟨fun wh pins s σ H Q I q => h.run wh pins s σ H Q I (k σ H Q q)⟩
variable {rest : List Expr}
theorem EvW.and1 (h : EvT X Γ a p) : EvW X Γ (.BoolOp .And [a] pos) p := pw_and1 h
theorem EvW.or1 (h : EvT X Γ a p) : EvW X Γ (.BoolOp .Or [a] pos) p := pw_or1 h
theorem EvW.and (ha : EvT X Γ a p) (hb : p = true → EvW X Γ (.BoolOp .And (b :: rest) pos) q) : EvW X Γ (.BoolOp .And (a :: b :: rest) pos) (p && q) := by
  cases p with
  | true => exact PW.imp (pw_and ha (hb rfl)) fun σ H Q ⟨B, F, As, ok, q⟩ => ⟨B, F, As, ok, fun H' s => iteT ⟨B, F, As, ok.grow s, fun H2 s2 => q H2 (s.trans s2)⟩⟩
  | false =>
    refine ⟨fun wh pins s σ H Q I ⟨B, F, As, ok, hq⟩ => ?_⟩
    refine isTrue_and (thn (ha.run pins s σ H (fun c H' => c = false ∧ Same H H') I ⟨B, F, As, ok, fun H' s => ⟨rfl, s⟩⟩) fun c s1 ⟨H1, I1, e, s2⟩ => ?_)
    subst e
    exact ⟨H1, I1, hq H1 s2⟩
theorem EvW.or (ha : EvT X Γ a p) (hb : p = false → EvW X Γ (.BoolOp .Or (b :: rest) pos) q) : EvW X Γ (.BoolOp .Or (a :: b :: rest) pos) (p || q) := by
  cases p with
  | false => exact PW.imp (pw_or ha (hb rfl)) fun σ H Q ⟨B, F, As, ok, q⟩ => ⟨B, F, As, ok, fun H' s => iteF ⟨B, F, As, ok.grow s, fun H2 s2 => q H2 (s.trans s2)⟩⟩
  | true =>
    refine ⟨fun wh pins s σ H Q I ⟨B, F, As, ok, hq⟩ => ?_⟩
    refine isTrue_or (thn (ha.run pins s σ H (fun c H' => c = true ∧ Same H H') I ⟨B, F, As, ok, fun H' s => ⟨rfl, s⟩⟩) fun c s1 ⟨H1, I1, e, s2⟩ => ?_)
    subst e
    exact ⟨H1, I1, hq H1 s2⟩
theorem Ev.and1 {op} (h : Ev X Γ a S (va p)) : Ev X Γ (.BoolOp op [a] pos) S (va p) := pe_one h
theorem Ev.and (ha : Ev X Γ a S (va p)) (hb : p = true → Ev X Γ (.BoolOp .And (b :: rest) pos) T (va q)) : Ev X Γ (.BoolOp .And (a :: b :: rest) pos) T (va (p && q)) := by
  cases p with
  | true => exact PE.imp (pe_and ha (hb rfl)) fun σ H Q ⟨B, F, As, ok, q⟩ => ⟨B, F, As, ok, fun v H' s r => ⟨true, r, iteT ⟨B, F, As, ok.grow s, fun w H2 s2 r2 => q w H2 (s.trans s2) (Sc.sc r2)⟩⟩⟩
  | false =>
    refine ⟨fun pins s σ H Q I ⟨B, F, As, ok, hq⟩ => ?_⟩
    refine BoolOp_and (thn (ha.run pins s σ H (fun v H' => v = .bl false ∧ Same H H') I ⟨B, F, As, ok, fun v H' s r => ⟨r, s⟩⟩) fun v s1 ⟨x, H1, I1, r1, e, s2⟩ => ?_)
    subst e
    cases r1
    exact wpAny_truthy_bool ⟨.bl false, H1, I1, rfl, hq _ H1 s2 rfl⟩
theorem Ev.or (ha : Ev X Γ a S (va p)) (hb : p = false → Ev X Γ (.BoolOp .Or (b :: rest) pos) T (va q)) : Ev X Γ (.BoolOp .Or (a :: b :: rest) pos) T (va (p || q)) := by
  cases p with
  | false => exact PE.imp (pe_or ha (hb rfl)) fun σ H Q ⟨B, F, As, ok, q⟩ => ⟨B, F, As, ok, fun v H' s r => ⟨false, r, iteF ⟨B, F, As, ok.grow s, fun w H2 s2 r2 => q w H2 (s.trans s2) (Sc.sc r2)⟩⟩⟩
  | true =>
    refine ⟨fun pins s σ H Q I ⟨B, F, As, ok, hq⟩ => ?_⟩
    refine BoolOp_or (thn (ha.run pins s σ H (fun v H' => v = .bl true ∧ Same H H') I ⟨B, F, As, ok, fun v H' s r => ⟨r, s⟩⟩) fun v s1 ⟨x, H1, I1, r1, e, s2⟩ => ?_)
    subst e
    cases r1
    exact wpAny_truthy_bool ⟨.bl true, H1, I1, rfl, hq _ H1 s2 rfl⟩
theorem Ev.not (ha : Ev X Γ a S (va p)) : Ev X Γ (.UnaryOp .Not a pos) T (va (!p)) := PE.imp (pe_not ha) fun σ H Q ⟨B, F, As, ok, q⟩ => ⟨B, F, As, ok, fun v H' s r => ⟨p, r, q _ H' s rfl⟩⟩
theorem Ev.ite {x y : α} (hc : EvT X Γ c p) (ha : p = true → Ev X Γ a S (va x)) (hb : p = false → Ev X Γ b S (va y)) : Ev X Γ (.IfExp c a b pos) S (va (if p = true then x else y)) := by
  refine ⟨fun pins s σ H Q I ⟨B, F, As, ok, hq⟩ => ?_⟩
  refine wpAny_IfExp (thn (hc.run pins s σ H (fun c H' => c = p ∧ Same H H') I ⟨B, F, As, ok, fun H' s => ⟨rfl, s⟩⟩) fun d s1 ⟨H1, I1, e, s2⟩ => ?_)
  subst e
  cases d with
  | true => exact (ha rfl).run pins s1 σ H1 Q I1 ⟨B, F, As, ok.grow s2, fun v H' s3 r => hq v H' (s2.trans s3) (Rp.mono (res_mono (Same.refl _) fun _ z => supp_grow s2 z) r)⟩
  | false => exact (hb rfl).run pins s1 σ H1 Q I1 ⟨B, F, As, ok.grow s2, fun v H' s3 r => hq v H' (s2.trans s3) (Rp.mono (res_mono (Same.refl _) fun _ z => supp_grow s2 z) r)⟩
end
open PySem PySem.Spec PyProof.Rows L2
open Rp (rp)
section
variable {K : Frag} {X : Cx} {Γ : List (Sl X.K)} {e a b c : Expr} {S T : Sup} {φ ψ χ : Asr X.K} {α β : Type} [Rp α] [Rp β] {pos : Pos}
theorem ix_get {xs : List α} {vs : List V} {K : Frag} {G : Hp} {i : Int} {x : α} (r : Rs (rp K G) vs xs) (h : atI xs i = some x) : ∃ v, atI vs i = some v ∧ rp K G v x := by
  unfold atI at h ⊢
  rw [r.len]
  cases e : ixN xs.length i with
  | none => rw [e] at h; cases h
  | some j => rw [e] at h; exact r.get h
theorem Ev.ix {xs : List α} {i : Int} {x : α} (ha : Ev X Γ a S (la xs)) (hb : Ev X Γ b T (va i)) (h : atI xs i = some x) (hp : PlainIx b := by exact fun _ _ => rfl) : Ev X Γ (.Subscript a b pos) S (va x) :=
  PE.imp (pe_ix ix_list ha hb hp) fun σ H Q ⟨B, F, As, ok, q⟩ => ⟨B, F, As, ok, fun v H1 s1 ⟨p, vs, e, hs, r⟩ => ⟨B, F, As, ok.grow s1, fun w H2 s2 p2 => by
    obtain ⟨u, hu, ru⟩ := ix_get r h
    exact ⟨p, vs, i, u, e, p2, s2.seq hs, hu, q u H2 (s1.trans s2) (Rp.mono (res_mono s2 fun _ z => z) ru)⟩⟩⟩
theorem Ev.ixT {γ : Type} [Rp γ] {y : γ} {x : α} {i : Int} {j} {p2 : Pos} (ha : Ev X Γ a S (va y)) (h : ∀ {K : Frag} {G : Hp} {v : V}, rp K G v y → ∃ p vs u, v = .ref p ∧ G p = some (.tup vs) ∧ atI vs i = some u ∧ rp K G u x)
    (hp : PlainIx (.Constant (.int i) j p2) := by exact fun _ _ => rfl) : Ev X Γ (.Subscript a (.Constant (.int i) j p2) pos) S (va x) :=
  PE.imp (pe_ix ix_tup ha (Ev.int (S := .pk)) hp) fun σ H Q ⟨B, F, As, ok, q⟩ => ⟨B, F, As, ok, fun v H1 s1 p1 => ⟨B, F, As, ok.grow s1, fun w H2 s2 p2 => by
    obtain ⟨p, vs, u, e, hs, hu, ru⟩ := h p1
    exact ⟨p, vs, i, u, e, p2, seqT s2 (SqT.of (res_same _ _ hs)), hu, q u H2 (s1.trans s2) (Rp.mono (res_mono s2 fun _ z => z) ru)⟩⟩⟩
theorem Ev.fst {y : α × β} {j} {p2 : Pos} (ha : Ev X Γ a S (va y)) : Ev X Γ (.Subscript a (.Constant (.int 0) j p2) pos) S (va y.1) := Ev.ixT ha fun ⟨p, v, w, e, h, r1, r2⟩ => ⟨p, _, v, e, h, rfl, r1⟩
theorem Ev.snd {y : α × β} {j} {p2 : Pos} (ha : Ev X Γ a S (va y)) : Ev X Γ (.Subscript a (.Constant (.int 1) j p2) pos) S (va y.2) := Ev.ixT ha fun ⟨p, v, w, e, h, r1, r2⟩ => ⟨p, _, w, e, h, rfl, r2⟩
abbrev St1 (X : Cx) (a : Expr) : Prop := starEach [a] X.env = (false, eval a X.env) :: starEach [] X.env
abbrev Pl1 (X : Cx) (pos : Pos) (b : Expr) : Prop := ((backTo pos (starEach [b] X.env)).any fun x => x.fst) = false
def tEvA (Γ : List (Sl K)) (S : Sup) (xs : List α) : TA := fun σ H Q => ∃ B F As, Ok B F Γ As σ H ∧ ∀ vs H', Same H H' → Rs (rp K (res H' (supp B F H S))) vs xs → Q vs H'
def EvA (X : Cx) (Γ : List (Sl X.K)) (es : List Expr) (S : Sup) (xs : List α) : Prop := PA X es (tEvA Γ S xs)
theorem PA.imp {X : Cx} {e : List Expr} {t t' : TA} (h : PA X e t) (k : ∀ σ H Q, t' σ H Q → t σ H Q) : PA X e t' := ⟨fun pos pins s σ H Q I q => h.run pos pins s σ H Q I (k σ H Q q)⟩
theorem EvA.nil : EvA X Γ [] S ([] : List α) := PA.imp pa_nil fun σ H Q ⟨B, F, As, ok, q⟩ => q [] H (Same.refl _) trivial
theorem EvA.cons {es : List Expr} {x : α} {xs : List α} (h : Ev X Γ e S (va x)) (h2 : EvA X Γ es S xs) (hs : starEach (e :: es) X.env = (false, eval e X.env) :: starEach es X.env := by rfl) : EvA X Γ (e :: es) S (x :: xs) :=
  PA.imp (pa_cons h h2 hs) fun σ H Q ⟨B, F, As, ok, q⟩ => ⟨B, F, As, ok, fun v H1 s1 p1 => ⟨B, F, As, ok.grow s1, fun vs H2 s2 r => q (v :: vs) H2 (s1.trans s2)
    ⟨Rp.mono (res_mono s2 fun _ z => z) p1, r.mono fun _ _ => Rp.mono (res_mono (Same.refl _) fun _ z => supp_grow s1 z)⟩⟩⟩
theorem len_le {n : Nat} (h : n ≤ 1000) : n ≤ sizeLine := Nat.le_of_lt (small1000 h)
theorem EvN.lst {es : List Expr} {xs : List α} (h : EvA X Γ es S xs) (hl : xs.length ≤ 1000 := by exact Nat.le_of_ble_eq_true rfl) : EvN X Γ (.List es pos) S xs :=
  PE.imp (pe_lst h) fun σ H Q ⟨B, F, As, ok, q⟩ => ⟨B, F, As, ok, fun vs H1 s1 r => ⟨by rw [r.len]; exact len_le hl, fun p hp => q p vs H1 s1 hp r⟩⟩
theorem Ev.tu {es : List Expr} {xs : List α} {x1} (h : EvA X Γ es S xs) (hl : xs.length ≤ 1000 := by exact Nat.le_of_ble_eq_true rfl) : Ev X Γ (.Tuple es x1 pos) S (va (Tu.mk xs)) :=
  PE.imp (pe_tup h) fun σ H Q ⟨B, F, As, ok, q⟩ => ⟨B, F, As, ok, fun vs H1 s1 r => ⟨by rw [r.len]; exact len_le hl, fun p hp => q _ _ (s1.trans (same_upd hp)) ⟨p, vs, rfl, res_some.mpr ⟨supp_new (s1.free hp), upd_same⟩, r.mono fun _ _ => Rp.mono (res_mono (same_upd hp) fun _ z => z)⟩⟩⟩
def Hs (H : Hp) (D : Sup → Addr → Prop) : List (Sup × Asr K) → List V → Prop
  | [], [] => True
  | (S, φ) :: r, v :: vs => φ.p (res H (D S)) H v ∧ Hs H D r vs
  | _, _ => False
theorem Hs.mono {D D' : Sup → Addr → Prop} {H H' : Hp} (s : Same H H') (k : ∀ S b, D S b → D' S b) : ∀ {φs : List (Sup × Asr K)} {vs : List V}, Hs H D φs vs → Hs H' D' φs vs
  | [], [], _ => trivial
  | (S, φ) :: r, v :: vs, h => ⟨φ.mono h.1 (res_mono s (k S)) s, Hs.mono s k h.2⟩
  | [], _ :: _, h => h.elim
  | _ :: _, [], h => h.elim
def tEvH (Γ : List (Sl K)) (φs : List (Sup × Asr K)) : TA := fun σ H Q => ∃ B F As, Ok B F Γ As σ H ∧ ∀ vs H', Same H H' → Hs H' (supp B F H) φs vs → Q vs H'
def EvH (X : Cx) (Γ : List (Sl X.K)) (es : List Expr) (φs : List (Sup × Asr X.K)) : Prop := PA X es (tEvH Γ φs)
theorem EvH.nil : EvH X Γ [] [] := PA.imp pa_nil fun σ H Q ⟨B, F, As, ok, q⟩ => q [] H (Same.refl _) trivial
theorem EvH.cons {es : List Expr} {φs : List (Sup × Asr X.K)} (h : Ev X Γ e S φ) (h2 : EvH X Γ es φs) (hs : starEach (e :: es) X.env = (false, eval e X.env) :: starEach es X.env := by rfl) : EvH X Γ (e :: es) ((S, φ) :: φs) :=
  PA.imp (pa_cons h h2 hs) fun σ H Q ⟨B, F, As, ok, q⟩ => ⟨B, F, As, ok, fun v H1 s1 p1 => ⟨B, F, As, ok.grow s1, fun vs H2 s2 r => q (v :: vs) H2 (s1.trans s2)
    ⟨φ.mono p1 (res_mono s2 fun _ z => z) s2, r.mono (Same.refl _) fun S b z => supp_grow s1 z⟩⟩⟩
theorem Hs.one {D : Sup → Addr → Prop} {H : Hp} {φ : Asr K} {vs : List V} (h : Hs H D [(S, φ)] vs) : ∃ v, vs = [v] ∧ φ.p (res H (D S)) H v := by
  cases vs with
  | nil => exact h.elim
  | cons v r => cases r with
    | nil => exact ⟨v, rfl, h.1⟩
    | cons _ _ => exact h.2.elim
theorem Hs.two {D : Sup → Addr → Prop} {H : Hp} {φ ψ : Asr K} {vs : List V} (h : Hs H D [(S, φ), (T, ψ)] vs) : ∃ v w, vs = [v, w] ∧ φ.p (res H (D S)) H v ∧ ψ.p (res H (D T)) H w := by
  cases vs with
  | nil => exact h.elim
  | cons v r =>
    obtain ⟨w, e, h2⟩ := Hs.one h.2
    exact ⟨v, w, by rw [e], h.1, h2⟩
theorem Ev.pair {x : α} {y : β} {x1} (h : EvH X Γ [a, b] [(S, va x), (S, va y)]) : Ev X Γ (.Tuple [a, b] x1 pos) S (va (x, y)) :=
  PE.imp (pe_tup h) fun σ H Q ⟨B, F, As, ok, q⟩ => ⟨B, F, As, ok, fun vs H1 s1 r => by
    obtain ⟨v, w, e, r1, r2⟩ := Hs.two r
    subst e
    exact ⟨len_le (by simp), fun p hp => q _ _ (s1.trans (same_upd hp)) ⟨p, v, w, rfl, res_some.mpr ⟨supp_new (s1.free hp), upd_same⟩, Rp.mono (res_mono (same_upd hp) fun _ z => z) r1, Rp.mono (res_mono (same_upd hp) fun _ z => z) r2⟩⟩⟩
theorem Ev.trip {γ : Type} [Rp γ] {x : α} {y : β} {z : γ} {x1} (h : EvH X Γ [a, b, c] [(S, va x), (S, va y), (S, va z)]) : Ev X Γ (.Tuple [a, b, c] x1 pos) S (va (T3.mk x y z)) :=
  PE.imp (pe_tup h) fun σ H Q ⟨B, F, As, ok, q⟩ => ⟨B, F, As, ok, fun vs H1 s1 r => by
    cases vs with
    | nil => exact r.elim
    | cons v vs =>
      obtain ⟨r0, r⟩ := r
      obtain ⟨v', w, e, r1, r2⟩ := Hs.two r
      subst e
      exact ⟨len_le (by simp), fun p hp => q _ _ (s1.trans (same_upd hp)) ⟨p, v, v', w, rfl, res_some.mpr ⟨supp_new (s1.free hp), upd_same⟩, Rp.mono (res_mono (same_upd hp) fun _ z => z) r0, Rp.mono (res_mono (same_upd hp) fun _ z => z) r1, Rp.mono (res_mono (same_upd hp) fun _ z => z) r2⟩⟩⟩
theorem Ev.quad {γ δ : Type} [Rp γ] [Rp δ] {d : Expr} {x : α} {y : β} {z : γ} {t : δ} {x1} (h : EvH X Γ [a, b, c, d] [(S, va x), (S, va y), (S, va z), (S, va t)]) : Ev X Γ (.Tuple [a, b, c, d] x1 pos) S (va (T4.mk x y z t)) :=
  PE.imp (pe_tup h) fun σ H Q ⟨B, F, As, ok, q⟩ => ⟨B, F, As, ok, fun vs H1 s1 r => by
    cases vs with
    | nil => exact r.elim
    | cons v vs =>
      obtain ⟨r0, r⟩ := r
      cases vs with
      | nil => exact r.elim
      | cons u vs =>
        obtain ⟨r3, r⟩ := r
        obtain ⟨v', w, e, r1, r2⟩ := Hs.two r
        subst e
        exact ⟨len_le (by simp), fun p hp => q _ _ (s1.trans (same_upd hp)) ⟨p, v, u, v', w, rfl, res_some.mpr ⟨supp_new (s1.free hp), upd_same⟩, Rp.mono (res_mono (same_upd hp) fun _ z => z) r0, Rp.mono (res_mono (same_upd hp) fun _ z => z) r3, Rp.mono (res_mono (same_upd hp) fun _ z => z) r1, Rp.mono (res_mono (same_upd hp) fun _ z => z) r2⟩⟩⟩
theorem Ev.cb {r : List V → Hp → VK → Prop} {id : String} {n : Str} {p1 : Pos} (hr : CallR X (.builtin id) r) (hg : Gl X n) (hm : X.mg n = none) (hb : bootBuiltins n = some (.builtin id)) (ha : Ev X Γ a S φ)
    (h : ∀ (P : Addr → Prop) H v Q, (∀ b, H b = none → P b) → φ.p (res H P) H v → (∀ w H', Same H H' → χ.p (res H' P) H' w → Q w H') → r [v] H Q)
    (h1 : n ≠ "__name__" := by decide) (h2 : (n == ("__debug__" : Str)) = false := by decide) (h3 : starEach [a] X.env = (false, eval a X.env) :: starEach [] X.env := by rfl) (h4 : ((backTo pos (starEach [] X.env)).any fun x => x.fst) = false := by rfl) :
    Ev X Γ (.Call (.Name n p1) [a] [] pos) S χ :=
  PE.imp (pe_callB hr hg hm hb (EvH.cons ha EvH.nil h3) h1 h2 h3 h4) fun σ H Q ⟨B, F, As, ok, q⟩ => ⟨B, F, As, ok, fun vs H1 s1 r => by
    obtain ⟨v, e, p⟩ := Hs.one r
    subst e
    exact h (supp B F H S) H1 v Q (fun b hb => supp_new (s1.free hb)) p fun w H' s2 p2 => q w H' (s1.trans s2) p2⟩
theorem EvN.cb {r : List V → Hp → VK → Prop} {id : String} {n : Str} {p1 : Pos} {zs : List β} (hr : CallR X (.builtin id) r) (hg : Gl X n) (hm : X.mg n = none) (hb : bootBuiltins n = some (.builtin id)) (ha : Ev X Γ a S φ)
    (h : ∀ (P : Addr → Prop) H v Q, φ.p (res H P) H v → (∀ a vs, H a = none → Rs (rp X.K (res H P)) vs zs → Q (.ref a) (upd H a (.lst vs))) → r [v] H Q)
    (h1 : n ≠ "__name__" := by decide) (h2 : (n == ("__debug__" : Str)) = false := by decide) (h3 : starEach [a] X.env = (false, eval a X.env) :: starEach [] X.env := by rfl) (h4 : ((backTo pos (starEach [] X.env)).any fun x => x.fst) = false := by rfl) :
    EvN X Γ (.Call (.Name n p1) [a] [] pos) S zs :=
  PE.imp (pe_callB hr hg hm hb (EvH.cons ha EvH.nil h3) h1 h2 h3 h4) fun σ H Q ⟨B, F, As, ok, q⟩ => ⟨B, F, As, ok, fun vs H1 s1 r => by
    obtain ⟨v, e, p⟩ := Hs.one r
    subst e
    exact h (supp B F H S) H1 v Q p fun w vs hw r => q w vs H1 s1 hw r⟩
theorem Ev.cty {r : List V → Hp → VK → Prop} {id : String} {n : Str} {p1 : Pos} (hr : CallR X (.type id) r) (hg : Gl X n) (hm : X.mg n = none) (hb : bootBuiltins n = some (.type id)) (ha : Ev X Γ a S φ)
    (h : ∀ (P : Addr → Prop) H v Q, (∀ b, H b = none → P b) → φ.p (res H P) H v → (∀ w H', Same H H' → χ.p (res H' P) H' w → Q w H') → r [v] H Q)
    (h1 : n ≠ "__name__" := by decide) (h2 : (n == ("__debug__" : Str)) = false := by decide) (h3 : starEach [a] X.env = (false, eval a X.env) :: starEach [] X.env := by rfl) (h4 : ((backTo pos (starEach [] X.env)).any fun x => x.fst) = false := by rfl) :
    Ev X Γ (.Call (.Name n p1) [a] [] pos) S χ :=
  PE.imp (pe_callTy hr hg hm hb (EvH.cons ha EvH.nil h3) h1 h2 h3 h4) fun σ H Q ⟨B, F, As, ok, q⟩ => ⟨B, F, As, ok, fun vs H1 s1 r => by
    obtain ⟨v, e, p⟩ := Hs.one r
    subst e
    exact h (supp B F H S) H1 v Q (fun b hb => supp_new (s1.free hb)) p fun w H' s2 p2 => q w H' (s1.trans s2) p2⟩
theorem EvN.cty {r : List V → Hp → VK → Prop} {id : String} {n : Str} {p1 : Pos} {zs : List β} (hr : CallR X (.type id) r) (hg : Gl X n) (hm : X.mg n = none) (hb : bootBuiltins n = some (.type id)) (ha : Ev X Γ a S φ)
    (h : ∀ (P : Addr → Prop) H v Q, φ.p (res H P) H v → (∀ a vs, H a = none → Rs (rp X.K (res H P)) vs zs → Q (.ref a) (upd H a (.lst vs))) → r [v] H Q)
    (h1 : n ≠ "__name__" := by decide) (h2 : (n == ("__debug__" : Str)) = false := by decide) (h3 : starEach [a] X.env = (false, eval a X.env) :: starEach [] X.env := by rfl) (h4 : ((backTo pos (starEach [] X.env)).any fun x => x.fst) = false := by rfl) :
    EvN X Γ (.Call (.Name n p1) [a] [] pos) S zs :=
  PE.imp (pe_callTy hr hg hm hb (EvH.cons ha EvH.nil h3) h1 h2 h3 h4) fun σ H Q ⟨B, F, As, ok, q⟩ => ⟨B, F, As, ok, fun vs H1 s1 r => by
    obtain ⟨v, e, p⟩ := Hs.one r
    subst e
    exact h (supp B F H S) H1 v Q p fun w vs hw r => q w vs H1 s1 hw r⟩
variable {p1 : Pos}
theorem Ev.len {xs : List α} (hm : X.mg "len" = none) (ha : Ev X Γ a S (la xs)) (hg : Gl X "len" := by rfl) (h3 : St1 X a := by rfl) : Ev X Γ (.Call (.Name "len" p1) [a] [] pos) S (va (xs.length : Int)) :=
  Ev.cb (h3 := h3) call_len_seq hg hm PySem.boot_len ha fun P H v Q _ ⟨p, vs, e, h, r⟩ q => ⟨p, vs, by rw [e], .inl h, q _ H (Same.refl _) (by rw [r.len]; rfl)⟩
theorem EvN.list {xs : List α} (hm : X.mg "list" = none) (ha : Ev X Γ a S (la xs)) (hg : Gl X "list" := by rfl) (h3 : St1 X a := by rfl) : EvN X Γ (.Call (.Name "list" p1) [a] [] pos) S xs :=
  EvN.cty (h3 := h3) call_list_of hg hm (by decide +kernel) ha fun P H v Q ⟨p, vs, e, h, r⟩ q => ⟨p, vs, by rw [e], .inl h, fun l hl => q l vs hl r⟩
theorem Ev.tuple {xs : List α} (hm : X.mg "tuple" = none) (ha : Ev X Γ a S (la xs)) (hg : Gl X "tuple" := by rfl) (h3 : St1 X a := by rfl) : Ev X Γ (.Call (.Name "tuple" p1) [a] [] pos) S (va (Tu.mk xs)) :=
  Ev.cty (h3 := h3) call_tuple_of hg hm (by decide +kernel) ha fun P H v Q k ⟨p, vs, e, h, r⟩ q => ⟨p, vs, by rw [e], .inl ⟨h, fun l hl => q _ _ (same_upd hl) ⟨l, vs, rfl, res_some.mpr ⟨k l hl, upd_same⟩, r.mono fun _ _ => Rp.mono (res_mono (same_upd hl) fun _ z => z)⟩⟩⟩
theorem Rs.ints {K : Frag} {G : Hp} : ∀ {vs : List V} {xs : List Int}, Rs (rp K G) vs xs → vs = xs.map V.int
  | [], [], _ => rfl
  | v :: vs, x :: xs, h => by rw [List.map_cons, ← Rs.ints h.2, show v = .int x from h.1]
  | [], _ :: _, h => h.elim
  | _ :: _, [], h => h.elim
theorem Rs.ofInts {K : Frag} {G : Hp} : ∀ xs : List Int, Rs (rp K G) (xs.map V.int) xs
  | [] => trivial
  | x :: xs => ⟨rfl, Rs.ofInts xs⟩
theorem Rs.bools {K : Frag} {G : Hp} : ∀ {vs : List V} {xs : List Bool}, Rs (rp K G) vs xs → vs = xs.map V.bl
  | [], [], _ => rfl
  | v :: vs, x :: xs, h => by rw [List.map_cons, ← Rs.bools h.2, show v = .bl x from h.1]
  | [], _ :: _, h => h.elim
  | _ :: _, [], h => h.elim
theorem Ev.all {xs : List Bool} (hc : X.calm = true) (hm : X.mg "all" = none) (ha : Ev X Γ a S (la xs)) (hg : Gl X "all" := by rfl) (h3 : St1 X a := by rfl) : Ev X Γ (.Call (.Name "all" p1) [a] [] pos) S (va (xs.all id)) :=
  Ev.cb (h3 := h3) (cr_all hc) hg hm (by decide +kernel) ha fun P H v Q _ ⟨p, vs, e, h, r⟩ q => ⟨p, xs, by rw [e], by rw [← r.bools]; exact h, q _ H (Same.refl _) rfl⟩
theorem Ev.any {xs : List Bool} (hc : X.calm = true) (hm : X.mg "any" = none) (ha : Ev X Γ a S (la xs)) (hg : Gl X "any" := by rfl) (h3 : St1 X a := by rfl) : Ev X Γ (.Call (.Name "any" p1) [a] [] pos) S (va (xs.any id)) :=
  Ev.cb (h3 := h3) (cr_any hc) hg hm (by decide +kernel) ha fun P H v Q _ ⟨p, vs, e, h, r⟩ q => ⟨p, xs, by rw [e], by rw [← r.bools]; exact h, q _ H (Same.refl _) rfl⟩
def sortI (xs : List Int) : List Int := xs.mergeSort (fun a b => decide (a ≤ b))
theorem sortI_perm (xs : List Int) : (sortI xs).Perm xs := List.mergeSort_perm _ _
theorem sortI_sorted (xs : List Int) : (sortI xs).Pairwise (· ≤ ·) := by
  have := List.pairwise_mergeSort (le := fun a b : Int => decide (a ≤ b)) (fun a b c h1 h2 => by simp at *; omega) (fun a b => by simp; omega) xs
  exact this.imp fun h => by simpa using h
theorem sorted_same {xs ys : List Int} (p : xs.Perm ys) (h1 : xs.Pairwise (· ≤ ·)) (h2 : ys.Pairwise (· ≤ ·)) : xs = ys :=
  List.Perm.eq_of_pairwise (fun a b _ _ h1 h2 => Int.le_antisymm h1 h2) h1 h2 p
theorem EvN.sorted {xs : List Int} (hm : X.mg "sorted" = none) (ha : Ev X Γ a S (la xs)) (hg : Gl X "sorted" := by rfl) (h3 : St1 X a := by rfl) : EvN X Γ (.Call (.Name "sorted" p1) [a] [] pos) S (sortI xs) :=
  EvN.cb (h3 := h3) cr_sortedI hg hm (by decide +kernel) ha fun P H v Q ⟨p, vs, e, h, r⟩ q => ⟨p, xs, by rw [e], by rw [← r.ints]; exact h, fun ns l pm so hl => by
    rw [sorted_same (pm.trans (sortI_perm xs).symm) so (sortI_sorted xs)]
    exact q l _ hl (Rs.ofInts _)⟩
def tEvP (Γ : List (Sl K)) (o : Option Int) : TO := fun σ H Q => ∃ B F As, Ok B F Γ As σ H ∧ ∀ H', Same H H' → Q o H'
def EvP (X : Cx) (Γ : List (Sl X.K)) (e : Option Expr) (o : Option Int) : Prop := PO X e (tEvP Γ o)
theorem PO.imp {X : Cx} {e : Option Expr} {t t' : TO} (h : PO X e t) (k : ∀ σ H Q, t' σ H Q → t σ H Q) : PO X e t' := ⟨fun pins s σ H Q I q => h.run pins s σ H Q I (k σ H Q q)⟩
theorem EvP.non : EvP X Γ none none := PO.imp po_none fun σ H Q ⟨B, F, As, ok, q⟩ => q H (Same.refl _)
theorem EvP.som {i : Int} (h : Ev X Γ e S (va i)) : EvP X Γ (some e) (some i) := PO.imp (po_some h) fun σ H Q ⟨B, F, As, ok, q⟩ => ⟨B, F, As, ok, fun v H' s p => ⟨i, p, q H' s⟩⟩
theorem EvN.slice {xs : List α} {lo hi : Option Expr} {l u : Option Int} {p2 : Pos} (ha : Ev X Γ a S (la xs)) (hl : EvP X Γ lo l) (hu : EvP X Γ hi u) : EvN X Γ (.Subscript a (.Slice lo hi none p2) pos) S (cut xs l u) :=
  PE.imp (pe_slice sl_list ha hl hu) fun σ H Q ⟨B, F, As, ok, q⟩ => ⟨B, F, As, ok, fun v H1 s1 ⟨p, vs, e, h, r⟩ => ⟨B, F, As, ok.grow s1, fun H2 s2 => ⟨B, F, As, ok.grow (s1.trans s2), fun H3 s3 =>
    ⟨p, vs, e, s3.seq (s2.seq h), fun l hl => q l _ H3 ((s1.trans s2).trans s3) hl ((r.mono fun _ _ => Rp.mono (res_mono (s2.trans s3) fun _ z => z)).cut _ _)⟩⟩⟩⟩
theorem tyL {K : Frag} {H : Hp} {p : Addr} {vs : List V} (h : SqL K H p vs) : tyV K "list" (.ref p) H := .inl ⟨rfl, _, h⟩
end
open PySem PySem.Spec PyProof.Rows L2
open Rp (rp)
def rangeI (a b : Int) : List Int := (List.range (b - a).toNat).map fun (k : Nat) => a + (k : Int)
def rng (a b : Int) : Option (List Int) := if -(2 ^ 62) ≤ a ∧ a < 2 ^ 62 ∧ -(2 ^ 62) ≤ b ∧ b < 2 ^ 62 ∧ (b - a).toNat ≤ sizeLine then some (rangeI a b) else none
def enumL {α : Type} (xs : List α) : List (Int × α) := xs.mapIdx fun i x => ((i : Int), x)
theorem enumL_get {α : Type} {xs : List α} {i : Nat} {y : Int × α} (h : (enumL xs)[i]? = some y) : ∃ x, xs[i]? = some x ∧ y = ((i : Int), x) := by
  unfold enumL at h
  rw [List.getElem?_mapIdx] at h
  obtain ⟨x, hx, e⟩ := Option.map_eq_some_iff.mp h
  exact ⟨x, hx, e.symm⟩
def lcD {α β : Type} : List α → (α → Option Bool) → (α → Option β) → Option (List β)
  | [], _, _ => some []
  | x :: xs, p, f => (p x).bind fun b => if b = true then (f x).bind fun y => (lcD xs p f).bind fun r => some (y :: r) else lcD xs p f
theorem lcD_total {α β : Type} (p : α → Bool) (f : α → β) : ∀ xs : List α, lcD xs (fun x => some (p x)) (fun x => some (f x)) = some ((xs.filter p).map f)
  | [] => rfl
  | x :: xs => by
    unfold lcD
    rw [lcD_total p f xs]
    cases e : p x <;> simp [List.filter_cons, e]
def Good {α : Type} [Rp α] (K : Frag) (J : It) (xs : List α) (Z G : Hp) : Prop := ∀ i H, Same Z H → Same G H →
  (∀ y, xs[i]? = some y → J.go i H ∧ ∀ x H', J.yld i H x H' → Same H H' ∧ rp K (res H' (fun b => H b = none ∨ G b ≠ none)) x y) ∧ (xs.length ≤ i → J.stop i H)
section
variable {K : Frag} {X : Cx} {Γ Γ' Γ1 Γ2 : List (Sl X.K)} {e a b c tg : Expr} {S T : Sup} {φ ψ χ : Asr X.K} {α β : Type} [Rp α] [Rp β] {pos : Pos}
def tEvI (Γ : List (Sl K)) (T S : Sup) (xs : List α) : TI := fun σ H R => ∃ B F As, Ok B F Γ As σ H ∧
  ∀ J H', Same H H' → xs.length ≤ sizeLine → Good K J xs (res H' (supp B F H T)) (res H' (supp B F H S)) → R J H'
def EvI (X : Cx) (Γ : List (Sl X.K)) (tg e : Expr) (T S : Sup) (xs : List α) : Prop := PI X tg e (tEvI Γ T S xs)
theorem PI.imp {X : Cx} {tg e : Expr} {t t' : TI} (h : PI X tg e t) (k : ∀ σ H Q, t' σ H Q → t σ H Q) : PI X tg e t' := ⟨fun pins s σ H Q I q => h.run pins s σ H Q I (k σ H Q q)⟩
def tEvL (Γ : List (Sl K)) (S : Sup) (φ : Asr K) : TE := fun σ H Q => ∃ B F As, Ok B F Γ As σ H ∧ ∀ v H', Same H H' → φ.p (res H' (supp B F H S)) H' v → (∀ a vs, v = .ref a → SqL K H' a vs → vs.length ≤ sizeLine) → Q v H'
theorem Ev.lens (h : Ev X Γ e S φ) : PE X e (tEvL Γ S φ) := by
  refine ⟨fun pins s σ H Q I ⟨B, F, As, ok, hq⟩ => ?_⟩
  refine thn (h.run pins s σ H (fun v H' => (∀ a vs, v = .ref a → SqL X.K H' a vs → vs.length ≤ sizeLine) → Q v H') I ⟨B, F, As, ok, fun v H' s p l => hq v H' s p l⟩) fun u s1 ⟨v, H1, I1, r1, q1⟩ => ⟨v, H1, I1, r1, q1 fun a vs ea hl => ?_⟩
  obtain ⟨_, _, _, z⟩ := I1.list hl
  exact z
theorem good_list {K : Frag} {p : Addr} {vs : List V} {xs : List α} {Z G : Hp} (hz : SqL K Z p vs) (r : Rs (rp K G) vs xs) : Good K (Itl K p) xs Z G := fun i H sz sg => by
  refine ⟨fun y hy => ?_, fun hl => ⟨vs, sz.seq hz, by rw [r.len]; exact hl⟩⟩
  obtain ⟨v, hv, rv⟩ := r.get hy
  refine ⟨⟨vs, v, sz.seq hz, hv⟩, fun x H' ⟨e, k⟩ => ?_⟩
  subst e
  refine ⟨Same.refl _, ?_⟩
  have : vs[i]? = some x := k vs (sz.seq hz)
  rw [hv] at this; cases this
  exact Rp.mono (fun b o h => res_some.mpr ⟨.inr (by rw [h]; simp), sg _ _ h⟩) rv
theorem EvI.la {xs : List α} (h : Ev X Γ e S (la xs)) : EvI X Γ tg e .pk S xs := PI.imp (pi_list h.lens) fun σ H R ⟨B, F, As, ok, q⟩ => ⟨B, F, As, ok, fun v H1 s1 ⟨p, vs, e, hs, r⟩ hl =>
  ⟨p, e, ⟨vs, hs⟩, q _ H1 s1 (by rw [← r.len]; exact hl p vs e hs) (good_list (Same.seq (fun b o h => res_some.mpr ⟨trivial, h⟩) hs) r)⟩⟩
theorem EvI.va {xs : List α} (h : Ev X Γ e S (va xs)) : EvI X Γ tg e S S xs := PI.imp (pi_list h.lens) fun σ H R ⟨B, F, As, ok, q⟩ => ⟨B, F, As, ok, fun v H1 s1 ⟨p, vs, e, hs, r⟩ hl =>
  ⟨p, e, ⟨vs, SqL.of (res_same _ _ hs)⟩, q _ H1 s1 (by rw [← r.len]; exact hl p vs e (SqL.of (res_same _ _ hs))) (good_list (SqL.of hs) r)⟩⟩
theorem EvI.tu {xs : Tu α} (h : Ev X Γ e S (M.va xs)) (hl : xs.l.length ≤ sizeLine) : EvI X Γ tg e S S xs.l := PI.imp (pi_tup h) fun σ H R ⟨B, F, As, ok, q⟩ => ⟨B, F, As, ok, fun v H1 s1 ⟨p, vs, e, hs, r⟩ =>
  ⟨p, e, ⟨vs, SqT.of (res_same _ _ hs)⟩, q _ H1 s1 hl fun i H sz sg => by
    refine ⟨fun y hy => ?_, fun hl => ⟨vs, SqT.of (sz _ _ hs), by rw [r.len]; exact hl⟩⟩
    obtain ⟨v, hv, rv⟩ := r.get hy
    refine ⟨⟨vs, v, SqT.of (sz _ _ hs), hv⟩, fun x H' ⟨e, k⟩ => ?_⟩
    subst e
    refine ⟨Same.refl _, ?_⟩
    have : vs[i]? = some x := k vs (SqT.of (sz _ _ hs))
    rw [hv] at this; cases this
    exact Rp.mono (fun b o h => res_some.mpr ⟨.inr (by rw [h]; simp), sg _ _ h⟩) rv⟩⟩
theorem EvI.up {xs : List α} (h : EvI X Γ tg e T S xs) {T' : Sup} (l : T.le T') : EvI X Γ tg e T' S xs := PI.imp h fun σ H R ⟨B, F, As, ok, q⟩ => ⟨B, F, As, ok, fun J H' s hl g => q J H' s hl fun i H2 sz sg => g i H2 (Same.trans (res_mono (Same.refl _) (supp_le l)) sz) sg⟩
theorem EvI.sc {γ : Type} [Sc γ] {xs : List γ} {S' : Sup} (h : EvI X Γ tg e T S xs) : EvI X Γ tg e .pk S' xs := PI.imp h fun σ H R ⟨B, F, As, ok, q⟩ => ⟨B, F, As, ok, fun J H' s hl g => q J H' s hl fun i H2 sz sg => by
  obtain ⟨g1, g2⟩ := g i H2 (fun b o h => sz _ _ (res_some.mpr ⟨trivial, (res_some.mp h).2⟩)) (fun b o h => sz _ _ (res_some.mpr ⟨trivial, (res_some.mp h).2⟩))
  exact ⟨fun y hy => ⟨(g1 y hy).1, fun x H' k => ⟨((g1 y hy).2 x H' k).1, Sc.sc ((g1 y hy).2 x H' k).2⟩⟩, g2⟩⟩
theorem rangeI_len (a b : Int) : (rangeI a b).length = (b - a).toNat := by simp [rangeI]
theorem rangeI_get {a b : Int} {i : Nat} {y : Int} (h : (rangeI a b)[i]? = some y) : y = a + i ∧ i < (b - a).toNat := by
  unfold rangeI at h
  rw [List.getElem?_map] at h
  obtain ⟨k, hk, e⟩ := Option.map_eq_some_iff.mp h
  rw [List.getElem?_range] at hk
  · cases hk; exact ⟨e.symm, by
      by_cases hi : i < (b - a).toNat
      · exact hi
      · rw [List.getElem?_eq_none (by simp; omega)] at h; cases h⟩
  · by_cases hi : i < (b - a).toNat
    · exact hi
    · rw [List.getElem?_eq_none (by simp; omega)] at h; cases h
theorem good_range {K : Frag} (a b : Int) (Z G : Hp) : Good K (Itr a (b - a).toNat) (rangeI a b) Z G := fun i H _ _ => ⟨fun y hy => by
  obtain ⟨e, hi⟩ := rangeI_get hy
  exact ⟨hi, fun x H' ⟨e1, e2⟩ => ⟨by rw [e1]; exact Same.refl _, by rw [e2, e]; rfl⟩⟩, fun hl => by rw [rangeI_len] at hl; exact hl⟩
variable {p1 : Pos}
theorem EvI.range1 {n : Int} {xs : List Int} {S' : Sup} (hm : X.mg "range" = none) (h : Ev X Γ a S (M.va n)) (hr : rng 0 n = some xs) (hg : Gl X "range" := by rfl) (hs : starEach [a] X.env = [(false, eval a X.env)] := by rfl) : EvI X Γ tg (.Call (.Name "range" p1) [a] [] pos) T S' xs := by
  unfold rng at hr
  split at hr
  · rename_i hc
    cases hr
    refine PI.imp (pi_range1 hg hm (EvH.cons h EvH.nil hs) hs) fun σ H R ⟨B, F, As, ok, q⟩ => ⟨B, F, As, ok, fun vs H1 s1 r => ?_⟩
    obtain ⟨v, e, p⟩ := Hs.one r
    subst e
    refine ⟨n, by rw [show v = _ from p], hc.2.2.1, hc.2.2.2.1, q _ H1 s1 (by rw [rangeI_len]; exact hc.2.2.2.2) ?_⟩
    have := good_range (K := X.K) 0 n (res H1 (supp B F H T)) (res H1 (supp B F H S'))
    rw [Int.sub_zero] at this
    exact this
  · cases hr
theorem PA.lens {φ : Asr X.K} (h : Ev X Γ e S φ) (hs : St1 X e) : PA X [e] (fun σ H Q => ∃ B F As, Ok B F Γ As σ H ∧ ∀ v H', Same H H' → φ.p (res H' (supp B F H S)) H' v → (∀ a vs, v = .ref a → SqL X.K H' a vs → vs.length ≤ sizeLine) → Q [v] H') :=
  PA.imp (pa_cons h.lens pa_nil hs) fun σ H Q q => q
theorem good_enum {K : Frag} {p : Addr} {vs : List V} {xs : List α} {Z G : Hp} (hz : SqL K Z p vs) (r : Rs (rp K G) vs xs) : Good K (Ite K p) (enumL xs) Z G := fun i H sz sg => by
  refine ⟨fun y hy => ?_, fun hl => ⟨vs, sz.seq hz, by rw [r.len]; simpa [enumL] using hl⟩⟩
  obtain ⟨x, hx, e⟩ := enumL_get hy
  obtain ⟨v, hv, rv⟩ := r.get hx
  refine ⟨⟨vs, v, sz.seq hz, hv⟩, fun w H' ⟨t, u, ew, nt, eH, k⟩ => ?_⟩
  subst ew eH e
  have : vs[i]? = some u := k vs (sz.seq hz)
  rw [hv] at this; cases this
  exact ⟨same_upd nt, t, _, _, rfl, res_some.mpr ⟨.inl nt, upd_same⟩, rfl, Rp.mono (fun b o h => res_some.mpr ⟨.inr (by rw [h]; simp), same_upd nt _ _ (sg _ _ h)⟩) rv⟩
variable {elts : List Expr} {kk : Nat} {tpos : Pos}
theorem EvI.enumv {xs : List α} (hm : X.mg "enumerate" = none) (h : Ev X Γ a S (M.va xs)) (hg : Gl X "enumerate" := by rfl) (hs : St1 X a := by rfl) (hs' : starEach [a] X.env = [(false, eval a X.env)] := by rfl) :
    EvI X Γ (.Tuple elts kk tpos) (.Call (.Name "enumerate" p1) [a] [] pos) S S (enumL xs) :=
  PI.imp (pi_enum hg hm (PA.lens h hs) hs') fun σ H R ⟨B, F, As, ok, q⟩ => ⟨B, F, As, ok, fun v H1 s1 ⟨p, vs, e, h1, r⟩ hl =>
    ⟨p, vs, by rw [e], SqL.of (res_same _ _ h1), q _ H1 s1 (by rw [show (enumL xs).length = xs.length by simp [enumL], ← r.len]; exact hl p vs e (SqL.of (res_same _ _ h1))) (good_enum (SqL.of h1) r)⟩⟩
def supS : Sup → Hp → Hp → Addr → HO → Prop
  | .fz, _, F, b, o => F b = some o
  | .bo, B, F, b, o => F b = some o ∨ B b = some o
  | .pk, _, _, _, _ => False
def rpS (K : Frag) (S : Sup) (B F : Hp) (v : V) (y : α) : Prop := S ≠ .pk ∧ ∃ G, rp K G v y ∧ ∀ b o, G b = some o → supS S B F b o
def slS : Sup → α → Sl K
  | .fz, y => fz y
  | .bo, y => bo y
  | .pk, _ => bot
structure Agr (ws : List Nat) (σ σ' : St) : Prop where
  len : σ'.length = σ.length
  at' : ∀ i, i ∉ ws → σ'[i]? = σ[i]?
theorem Agr.trans {ws ws' : List Nat} {σ σ' σ'' : St} (h : Agr ws σ σ') (h' : Agr ws' σ' σ'') : Agr (ws ++ ws') σ σ'' :=
  ⟨h'.len.trans h.len, fun i hi => (h'.at' i fun z => hi (List.mem_append_right _ z)).trans (h.at' i fun z => hi (List.mem_append_left _ z))⟩
def tG (ws : List Nat) (S : Sup) (y : α) (Γ Γ' : List (Sl K)) : TG := fun v σ H Q => ∃ B F As, Ok B F Γ As σ H ∧ rpS K S B F v y ∧
  ∀ As' σ', Ok B F Γ' As' σ' H → (∀ a ∈ As'.flatten, a ∈ As.flatten) → Agr ws σ σ' → Q σ' H
def Tg (X : Cx) (tg : Expr) (ws : List Nat) (S : Sup) (y : α) (Γ Γ' : List (Sl X.K)) : Prop := PG X tg (tG ws S y Γ Γ')
theorem Ok.set {B F H : Hp} {Γ : List (Sl K)} {As : List (List Addr)} {σ : St} {s : Sl K} {A : List Addr} {v : Option V} (ok : Ok B F Γ As σ H) (i : Nat) (h : s.p B F H A v) (hn : A.Nodup) (ha : ∀ a ∈ A, a ∉ As.flatten ∧ F a = none ∧ B a = none) :
    Ok B F (Γ.set i s) (As.set i A) (σ.set i v) H :=
  ⟨ok.mt.set h i, ok.sb, ok.sf, nodup_flat_set hn i ok.nd fun a h => (ha a h).1, fun a h => (mem_flat_set h).elim (fun z => (ha a z).2.1) (ok.ff a), fun a h => (mem_flat_set h).elim (fun z => (ha a z).2.2) (ok.fb a)⟩
theorem slS_p {B F H : Hp} {v : V} {y : α} (h : rpS K S B F v y) : (slS (K := K) S y).p B F H [] (some v) := by
  obtain ⟨n, G, r, g⟩ := h
  cases S with
  | fz => exact ⟨rfl, v, rfl, Rp.mono g r⟩
  | bo => exact ⟨rfl, v, G, rfl, r, g⟩
  | pk => exact absurd rfl n
theorem supS_same {B F H : Hp} (sb : Same B H) (sf : Same F H) {b : Addr} {o : HO} (h : supS S B F b o) : H b = some o := by
  cases S with
  | fz => exact sf _ _ h
  | bo => exact h.elim (sf _ _) (sb _ _)
  | pk => exact h.elim
theorem set_agr (i : Nat) (σ : St) (v : Option V) : Agr [i] σ (σ.set i v) := ⟨by simp, fun j hj => by rw [List.getElem?_set_ne (fun e => hj (by simp [e]))]⟩
theorem Tg.name (i : Nat) {n : Str} {y : α} (hN : X.N.Nodup) (hi : X.N[i]? = some n := by rfl) (hx : Loc X.env.scope n := by first | exact Or.inl rfl | exact Or.inr rfl)
    (hf : X.fn n = true ∨ X.env.scope.names.lookup n = some .local := by first | exact .inl rfl | exact .inr rfl | assumption) : Tg X (.Name n pos) [i] S y Γ (Γ.set i (slS S y)) := by
  have h := pg_name (pos := pos) hN hi hx hf
  exact ⟨fun pins s σ H v u Q I r ⟨B, F, As, ok, hr, q⟩ => h.run pins s σ H v u Q I r (q _ _ (ok.set i (slS_p hr) List.nodup_nil (fun a z => by cases z)) (fun a z => (mem_flat_set z).elim (fun z => by cases z) id) (set_agr i σ _))⟩
theorem Tg.nameS {γ : Type} [Sc γ] (i : Nat) {n : Str} {y : γ} (hN : X.N.Nodup) (hi : X.N[i]? = some n := by rfl) (hx : Loc X.env.scope n := by first | exact Or.inl rfl | exact Or.inr rfl)
    (hf : X.fn n = true ∨ X.env.scope.names.lookup n = some .local := by first | exact .inl rfl | exact .inr rfl | assumption) : Tg X (.Name n pos) [i] S y Γ (Γ.set i (fz y)) := by
  have h := pg_name (pos := pos) hN hi hx hf
  exact ⟨fun pins s σ H v u Q I r ⟨B, F, As, ok, ⟨_, G, hr, _⟩, q⟩ => h.run pins s σ H v u Q I r (q _ _ (ok.set i (s := fz y) (A := []) ⟨rfl, v, rfl, Sc.sc hr⟩ List.nodup_nil (fun a z => by cases z)) (fun a z => (mem_flat_set z).elim (fun z => by cases z) id) (set_agr i σ _))⟩
theorem Tg.pair {t1 t2 : Expr} {ws ws' : List Nat} {y : α × β} {k : Nat} (hc : X.calm = true) (h1 : Tg X t1 ws S y.1 Γ Γ1) (h2 : Tg X t2 ws' S y.2 Γ1 Γ2)
    (hn : (assignEach [t1, t2] X.env).length = 2 := by rfl) (hst : (assignEach [t1, t2] X.env).findIdx? (·.1) = none := by rfl)
    (hs : (assignEach [t1, t2] X.env).map (·.2) = assign t1 X.env :: (assignEach [t2] X.env).map (·.2) := by rfl) (hs2 : (assignEach [t2] X.env).map (·.2) = assign t2 X.env :: (assignEach [] X.env).map (·.2) := by rfl) : Tg X (.Tuple [t1, t2] k pos) (ws ++ ws') S y Γ Γ2 := by
  have h := pg_tup (k := k) (pos := pos) hc (pgs_cons h1 (pgs_cons h2 pgs_nil hs2) hs) hn hst
  refine ⟨fun pins s σ H v u Q I r ⟨B, F, As, ok, hr, q⟩ => h.run pins s σ H v u Q I r ?_⟩
  obtain ⟨n, G, ⟨a, v1, v2, e, hh, r1, r2⟩, g⟩ := hr
  exact ⟨a, [v1, v2], e, SqT.of (supS_same ok.sb ok.sf (g _ _ hh)), rfl, v1, [v2], rfl, B, F, As, ok, ⟨n, G, r1, g⟩, fun As1 σ1 ok1 sub1 ag1 => ⟨v2, [], rfl, B, F, As1, ok1, ⟨n, G, r2, g⟩, fun As2 σ2 ok2 sub2 ag2 => ⟨rfl, q As2 σ2 ok2 (fun a z => sub1 a (sub2 a z)) (ag1.trans ag2)⟩⟩⟩
theorem Tg.trip {t1 t2 t3 : Expr} {Γ3 : List (Sl X.K)} {γ : Type} [Rp γ] {ws ws' ws'' : List Nat} {y : T3 α β γ} {k : Nat} (hc : X.calm = true) (h1 : Tg X t1 ws S y.a Γ Γ1) (h2 : Tg X t2 ws' S y.b Γ1 Γ2) (h3 : Tg X t3 ws'' S y.c Γ2 Γ3)
    (hn : (assignEach [t1, t2, t3] X.env).length = 3 := by rfl) (hst : (assignEach [t1, t2, t3] X.env).findIdx? (·.1) = none := by rfl)
    (hs : (assignEach [t1, t2, t3] X.env).map (·.2) = assign t1 X.env :: (assignEach [t2, t3] X.env).map (·.2) := by rfl) (hs2 : (assignEach [t2, t3] X.env).map (·.2) = assign t2 X.env :: (assignEach [t3] X.env).map (·.2) := by rfl)
    (hs3 : (assignEach [t3] X.env).map (·.2) = assign t3 X.env :: (assignEach [] X.env).map (·.2) := by rfl) : Tg X (.Tuple [t1, t2, t3] k pos) (ws ++ ws' ++ ws'') S y Γ Γ3 := by
  have h := pg_tup (k := k) (pos := pos) hc (pgs_cons h1 (pgs_cons h2 (pgs_cons h3 pgs_nil hs3) hs2) hs) hn hst
  refine ⟨fun pins s σ H v u Q I r ⟨B, F, As, ok, hr, q⟩ => h.run pins s σ H v u Q I r ?_⟩
  obtain ⟨n, G, ⟨a, v1, v2, v3, e, hh, r1, r2, r3⟩, g⟩ := hr
  exact ⟨a, [v1, v2, v3], e, SqT.of (supS_same ok.sb ok.sf (g _ _ hh)), rfl, v1, [v2, v3], rfl, B, F, As, ok, ⟨n, G, r1, g⟩, fun As1 σ1 ok1 sub1 ag1 => ⟨v2, [v3], rfl, B, F, As1, ok1, ⟨n, G, r2, g⟩, fun As2 σ2 ok2 sub2 ag2 =>
    ⟨v3, [], rfl, B, F, As2, ok2, ⟨n, G, r3, g⟩, fun As3 σ3 ok3 sub3 ag3 => ⟨rfl, q As3 σ3 ok3 (fun a z => sub1 a (sub2 a (sub3 a z))) ((ag1.trans ag2).trans ag3)⟩⟩⟩⟩
theorem Tg.quad {t1 t2 t3 t4 : Expr} {Γ3 Γ4 : List (Sl X.K)} {γ δ : Type} [Rp γ] [Rp δ] {ws ws' ws'' ws3 : List Nat} {y : T4 α β γ δ} {k : Nat} (hc : X.calm = true) (h1 : Tg X t1 ws S y.a Γ Γ1) (h2 : Tg X t2 ws' S y.b Γ1 Γ2) (h3 : Tg X t3 ws'' S y.c Γ2 Γ3) (h4 : Tg X t4 ws3 S y.d Γ3 Γ4)
    (hn : (assignEach [t1, t2, t3, t4] X.env).length = 4 := by rfl) (hst : (assignEach [t1, t2, t3, t4] X.env).findIdx? (·.1) = none := by rfl)
    (hs : (assignEach [t1, t2, t3, t4] X.env).map (·.2) = assign t1 X.env :: (assignEach [t2, t3, t4] X.env).map (·.2) := by rfl) (hs2 : (assignEach [t2, t3, t4] X.env).map (·.2) = assign t2 X.env :: (assignEach [t3, t4] X.env).map (·.2) := by rfl)
    (hs3 : (assignEach [t3, t4] X.env).map (·.2) = assign t3 X.env :: (assignEach [t4] X.env).map (·.2) := by rfl) (hs4 : (assignEach [t4] X.env).map (·.2) = assign t4 X.env :: (assignEach [] X.env).map (·.2) := by rfl) : Tg X (.Tuple [t1, t2, t3, t4] k pos) (ws ++ ws' ++ ws'' ++ ws3) S y Γ Γ4 := by
  have h := pg_tup (k := k) (pos := pos) hc (pgs_cons h1 (pgs_cons h2 (pgs_cons h3 (pgs_cons h4 pgs_nil hs4) hs3) hs2) hs) hn hst
  refine ⟨fun pins s σ H v u Q I r ⟨B, F, As, ok, hr, q⟩ => h.run pins s σ H v u Q I r ?_⟩
  obtain ⟨n, G, ⟨a, v1, v2, v3, v4, e, hh, r1, r2, r3, r4⟩, g⟩ := hr
  exact ⟨a, [v1, v2, v3, v4], e, SqT.of (supS_same ok.sb ok.sf (g _ _ hh)), rfl, v1, [v2, v3, v4], rfl, B, F, As, ok, ⟨n, G, r1, g⟩, fun As1 σ1 ok1 sub1 ag1 => ⟨v2, [v3, v4], rfl, B, F, As1, ok1, ⟨n, G, r2, g⟩, fun As2 σ2 ok2 sub2 ag2 =>
    ⟨v3, [v4], rfl, B, F, As2, ok2, ⟨n, G, r3, g⟩, fun As3 σ3 ok3 sub3 ag3 => ⟨v4, [], rfl, B, F, As3, ok3, ⟨n, G, r4, g⟩, fun As4 σ4 ok4 sub4 ag4 => ⟨rfl, q As4 σ4 ok4 (fun a z => sub1 a (sub2 a (sub3 a (sub4 a z)))) (((ag1.trans ag2).trans ag3).trans ag4)⟩⟩⟩⟩⟩
def wipeG (Γ : List (Sl K)) : List Nat → List (Sl K)
  | [] => Γ
  | v :: vs => (wipeG Γ vs).set v un
def wipeA (As : List (List Addr)) : List Nat → List (List Addr)
  | [] => As
  | v :: vs => (wipeA As vs).set v []
theorem Ok.wipe {B F H : Hp} {Γ : List (Sl K)} {As : List (List Addr)} {σ : St} (ok : Ok B F Γ As σ H) : ∀ vs : List Nat, Ok B F (wipeG Γ vs) (wipeA As vs) (wipe σ vs) H
  | [] => ok
  | v :: vs => (ok.wipe vs).set v (s := un) (A := []) rfl List.nodup_nil fun a z => by cases z
theorem wipe_at : ∀ {σ : St} {vs : List Nat} {i : Nat}, (wipe σ vs)[i]? = if i ∈ vs ∧ i < σ.length then some none else σ[i]?
  | σ, [], i => by simp [wipe]
  | σ, v :: vs, i => by
    unfold wipe
    have ih := wipe_at (σ := σ) (vs := vs) (i := i)
    by_cases e : v = i
    · subst e
      by_cases hl : v < σ.length
      · rw [List.getElem?_set_self (by rw [wipe_length]; exact hl), if_pos ⟨List.mem_cons_self, hl⟩]
      · rw [List.getElem?_eq_none (by simp [wipe_length]; omega), if_neg (fun z => hl z.2), List.getElem?_eq_none (by omega)]
    · rw [List.getElem?_set_ne e, ih]
      have : (i ∈ v :: vs) ↔ i ∈ vs := by simp [List.mem_cons, Ne.symm e]
      simp only [this]
theorem Agr.wipe {ws vs : List Nat} {σ σ' : St} (h : Agr ws σ σ') (k : ∀ i ∈ ws, i ∈ vs) : L2.wipe σ' vs = L2.wipe σ vs := by
  apply List.ext_getElem?
  intro i
  rw [wipe_at, wipe_at, h.len]
  by_cases hi : i ∈ vs
  · by_cases hl : i < σ.length
    · simp [hi, hl]
    · rw [if_neg (fun z => hl z.2), if_neg (fun z => hl z.2), List.getElem?_eq_none (by have := h.len; omega), List.getElem?_eq_none (by omega)]
  · rw [if_neg (fun z => hi z.1), if_neg (fun z => hi z.1)]
    exact h.at' i fun z => hi (k i z)
def EvTs (X : Cx) (Γ : List (Sl X.K)) (ifs : List Expr) (x : Bool) : Prop := PTs X ifs (tEvT Γ x)
theorem PTs.imp {X : Cx} {e : List Expr} {t t' : TT} (h : PTs X e t) (k : ∀ σ H Q, t' σ H Q → t σ H Q) : PTs X e t' := ⟨fun pins s σ H Q I q => h.run pins s σ H Q I (k σ H Q q)⟩
theorem EvTs.nil : EvTs X Γ [] true := PTs.imp pts_nil fun σ H Q ⟨B, F, As, ok, q⟩ => q H (Same.refl _)
theorem EvTs.one {x : Bool} (h : EvT X Γ c x) : EvTs X Γ [c] x := pts_one h
noncomputable def cutD (H : Hp) (D : Addr) : Hp := res H fun b => b ≠ D
theorem cutD_upd {H : Hp} {D : Addr} {o : HO} : upd (cutD H D) D o = upd H D o := by
  funext b
  unfold upd cutD
  split
  · rfl
  · rename_i h; unfold res; rw [if_pos h]
theorem cutD_self {H : Hp} {D : Addr} {o : HO} (h : H D = some o) : upd (cutD H D) D o = H := by
  funext b
  unfold upd cutD res
  split
  · rename_i e; rw [e, h]
  · rfl
theorem cutD_none {H : Hp} {D : Addr} : cutD H D D = none := res_none (by simp)
def LcOk (X : Cx) (Γ : List (Sl X.K)) (e : Expr) (T : Sup) (zs : List β) : Prop := ∃ (elt tg iter : Expr) (ifs : List Expr) (scope : Scope) (own : List (Str × Nat)) (pos : Pos) (wi : TI) (g : TG) (tt : TT) (te : TE),
  e = .ListComp elt [⟨tg, iter, ifs, 0⟩] scope pos ∧ X.calm = true ∧ X.N.Nodup ∧ PI X tg iter wi ∧ BlkOk X.N X.env.scope scope own ∧
  (∀ (s : Shared) (H : Hp) (C : Addr) (cl : List (Str × Addr)) (fp : List Addr), PG (X.blk s H scope (compEnvC scope cl C X.env) fp) tg g) ∧
  (∀ (s : Shared) (H : Hp) (C : Addr) (cl : List (Str × Addr)) (fp : List Addr), PTs (X.blk s H scope (compEnvC scope cl C X.env) fp) ifs tt) ∧
  (∀ (s : Shared) (H : Hp) (C : Addr) (cl : List (Str × Addr)) (fp : List Addr), PE (X.blk s H scope (compEnvC scope cl C X.env) fp) elt te) ∧ (∀ x, foldedSetIterable iter X.env x = pure x) ∧
  ∀ σ H Q, tEvN Γ T zs σ H Q → tLc wi g tt te (own.map (·.2)) σ H Q
theorem EvN.lc {zs : List β} (h : LcOk X Γ e T zs) : EvN X Γ e T zs := by
  obtain ⟨elt, tg, iter, ifs, scope, own, pos, wi, g, tt, te, rfl, hc, hN, hi, okB, hg, ht, he, hs, k⟩ := h
  exact PE.imp (pe_lc hc hN hi okB hg ht he hs) k
theorem LcOk.mk {xs : List α} {zs : List β} {tg elt iter : Expr} {ifs : List Expr} {scope : Scope} {own : List (Str × Nat)} {ws : List Nat} {τ : α → List (Sl X.K)} {p : α → Option Bool} {f : α → Option β}
    (hc : X.calm = true) (hN : X.N.Nodup) (hi : EvI X Γ tg iter .pk S xs) (okB : BlkOk X.N X.env.scope scope own)
    (hg : ∀ (s : Shared) (H : Hp) (C : Addr) (cl : List (Str × Addr)) (fp : List Addr) (y : α), Tg (X.blk s H scope (compEnvC scope cl C X.env) fp) tg ws S y (wipeG Γ (own.map (·.2))) (τ y))
    (ht : ∀ (s : Shared) (H : Hp) (C : Addr) (cl : List (Str × Addr)) (fp : List Addr) (y : α) (b : Bool), p y = some b → EvTs (X.blk s H scope (compEnvC scope cl C X.env) fp) (τ y) ifs b)
    (he : ∀ (s : Shared) (H : Hp) (C : Addr) (cl : List (Str × Addr)) (fp : List Addr) (y : α) (z : β), p y = some true → f y = some z → Ev (X.blk s H scope (compEnvC scope cl C X.env) fp) (τ y) elt T (M.va z))
    (hz : lcD xs p f = some zs) (hS : S ≠ .pk := by decide) (hT : T ≠ .pk := by decide) (hws : ∀ i ∈ ws, i ∈ own.map (·.2) := by decide) (hs : ∀ x, foldedSetIterable iter X.env x = pure x := by intro _; rfl) :
    LcOk X Γ (.ListComp elt [⟨tg, iter, ifs, 0⟩] scope pos) T zs := by
  refine ⟨elt, tg, iter, ifs, scope, own, pos, tEvI Γ .pk S xs, fun v σ H Q => ∃ y, tG ws S y (wipeG Γ (own.map (·.2))) (τ y) v σ H Q, fun σ H Q => ∃ y b, p y = some b ∧ tEvT (τ y) b σ H Q,
    fun σ H Q => ∃ y z, p y = some true ∧ f y = some z ∧ tEv (τ y) T (M.va z) σ H Q, rfl, hc, hN, hi, okB, (fun s H C cl fp => ⟨fun pins s' σ H' v u Q I r ⟨y, q⟩ => (hg s H C cl fp y).run pins s' σ H' v u Q I r q⟩),
    (fun s H C cl fp => ⟨fun pins s' σ H' Q I ⟨y, b, e, q⟩ => (ht s H C cl fp y b e).run pins s' σ H' Q I q⟩), (fun s H C cl fp => ⟨fun pins s' σ H' Q I ⟨y, z, e, e2, q⟩ => (he s H C cl fp y z e e2).run pins s' σ H' Q I q⟩), hs, fun σ H Q ⟨B, F, As, ok, q⟩ => ?_⟩
  refine ⟨B, F, As, ok, fun J H1 s1 hlen good D hD => ?_⟩
  refine ⟨fun i m Hc => m = xs.length - i ∧ i ≤ xs.length ∧ ∃ Hm vs dn rest, Hc = upd Hm D (.lst vs) ∧ Hm D = none ∧ Same H1 Hm ∧ vs.length ≤ i ∧ Rs (rp X.K (res Hm (supp B F H T))) vs dn ∧ lcD (xs.drop i) p f = some rest ∧ dn ++ rest = zs,
    ⟨xs.length, by simp, Nat.zero_le _, H1, [], [], zs, rfl, hD, Same.refl _, Nat.le_refl _, trivial, by simpa using hz, rfl⟩, ?_⟩
  rintro i m Hc ⟨rfl, hi', Hm, vs, dn, rest, rfl, hmD, sm, hvl, hr, hrest, hcat⟩
  have sH1 : Same H1 (upd Hm D (.lst vs)) := sm.trans (same_upd hmD)
  have hHD : H D = none := s1.free hD
  have hFD : F D = none := ok.sf.free hHD
  have hBD : B D = none := ok.sb.free hHD
  obtain ⟨g1, g2⟩ := good i (upd Hm D (.lst vs)) (res_same.trans sH1) (res_same.trans sH1)
  by_cases hlt : i < xs.length
  · refine .inr ⟨(g1 xs[i] (List.getElem?_eq_getElem hlt)).1, fun H' => ∃ m', m' < xs.length - i ∧ m' = xs.length - (i + 1) ∧ i + 1 ≤ xs.length ∧ ∃ Hm vs dn rest, H' = upd Hm D (.lst vs) ∧ Hm D = none ∧ Same H1 Hm ∧ vs.length ≤ i + 1 ∧ Rs (rp X.K (res Hm (supp B F H T))) vs dn ∧ lcD (xs.drop (i + 1)) p f = some rest ∧ dn ++ rest = zs,
      fun H' ⟨m', h1, h2⟩ => ⟨m', h1, h2⟩, fun x H' hy => ?_⟩
    obtain ⟨sy, ry⟩ := (g1 xs[i] (List.getElem?_eq_getElem hlt)).2 x H' hy
    have sHH' : Same H H' := (s1.trans sH1).trans sy
    have hD' : H' D = some (.lst vs) := sy _ _ upd_same
    -- the frozen heap without D
    let F' : Hp := res H' fun b => b ≠ D ∧ supp B F H .fz b
    have hF : Same F F' := fun b o h => res_some.mpr ⟨⟨fun z => (by rw [z, hFD] at h; cases h), .inr (by rw [h]; simp)⟩, sHH' _ _ (ok.sf _ _ h)⟩
    have ok' : Ok B F' (wipeG Γ (own.map (·.2))) (wipeA As (own.map (·.2))) (wipe σ (own.map (·.2))) H' := by
      refine Ok.wipe ⟨ok.mt.fr hF (ok.eqs sHH'), ok.sb.trans sHH', res_same, ok.nd, fun a ha => res_none fun z => ?_, ok.fb⟩ _
      exact z.2.elim (fun z => ok.mt.lv a ha z) fun z => z (ok.ff a ha)
    have hyS : rpS X.K S B F' x xs[i] := by
      refine ⟨hS, _, ry, fun b o h => ?_⟩
      obtain ⟨h1, h2⟩ := res_some.mp h
      have bD : H b = none → b ≠ D → F' b = some o := fun h hb => res_some.mpr ⟨⟨hb, .inl h⟩, h2⟩
      have hb : b ≠ D := by
        rintro rfl
        rcases h1 with h1 | h1
        · rw [upd_same] at h1; cases h1
        · exact h1 (by unfold res; rw [hD]; split <;> rfl)
      rcases h1 with h1 | h1
      · have z : F' b = some o := bD ((s1.trans sH1).free h1) hb
        cases S with
        | fz => exact z
        | bo => exact .inl z
        | pk => exact absurd rfl hS
      · have z : supp B F H S b := Classical.byContradiction fun z => h1 (res_none z)
        cases S with
        | fz => exact res_some.mpr ⟨⟨hb, z⟩, h2⟩
        | bo =>
          rcases z with z | z | z
          · exact .inl (bD z hb)
          · exact .inl (res_some.mpr ⟨⟨hb, .inr z⟩, h2⟩)
          · refine .inr ?_
            cases e : B b with
            | none => exact absurd e z
            | some o' =>
              have := (ok.sb.trans sHH') _ _ e
              rw [h2] at this; exact this.symm
        | pk => exact absurd rfl hS
    refine ⟨xs[i], B, F', _, ok', hyS, fun As2 σ2 ok2 _ ag => ⟨ag.wipe hws |>.trans (by
      apply List.ext_getElem?
      intro j
      rw [wipe_at, wipe_at, wipe_length]
      split
      · rfl
      · rfl), ?_⟩⟩
    rw [List.drop_eq_getElem_cons hlt] at hrest
    obtain ⟨b, hb, hrest⟩ := Option.bind_eq_some_iff.mp hrest
    refine ⟨xs[i], b, hb, B, F', As2, ok2, fun H3 s3 => ?_⟩
    have base : ∀ {H4 : Hp}, Same H' H4 → H4 D = some (.lst vs) ∧ Same H1 (cutD H4 D) ∧ Rs (rp X.K (res (cutD H4 D) (supp B F H T))) vs dn := fun {H4} s4 => by
      have sc : Same Hm (cutD H4 D) := fun b o h => res_some.mpr ⟨fun z => (by rw [z, hmD] at h; cases h), s4 _ _ (sy _ _ (same_upd hmD _ _ h))⟩
      exact ⟨s4 _ _ hD', sm.trans sc, hr.mono fun _ _ => Rp.mono (res_mono sc fun _ z => z)⟩
    cases b with
    | false =>
      rw [if_neg (by simp)] at hrest
      refine iteF ?_
      obtain ⟨h1, h2, h3⟩ := base s3
      exact ⟨_, by omega, rfl, hlt, cutD H3 D, vs, dn, rest, (cutD_self h1).symm, cutD_none, h2, by omega, h3, hrest, hcat⟩
    | true =>
      rw [if_pos rfl] at hrest
      refine iteT ?_
      obtain ⟨z, hz', hrest⟩ := Option.bind_eq_some_iff.mp hrest
      obtain ⟨r', hr', e'⟩ := Option.bind_eq_some_iff.mp hrest
      cases e'
      refine ⟨xs[i], z, hb, hz', B, F', As2, ok2.grow s3, fun w H4 s4 hw => ⟨vs, ?_⟩⟩
      obtain ⟨h1, h2, h3⟩ := base (s3.trans s4)
      refine ⟨h1, by omega, _, by omega, rfl, hlt, cutD H4 D, vs ++ [w], dn ++ [z], r', cutD_upd.symm, cutD_none, h2, by simp; omega, h3.append ⟨?_, trivial⟩, hr', by simpa using hcat⟩
      refine Rp.mono (fun b o h => ?_) hw
      obtain ⟨k1, k2⟩ := res_some.mp h
      have k1 := supp_grow s3 k1
      have nb : H' b = none → b ≠ D := fun h z => by rw [z, hD'] at h; cases h
      have k3 : b ≠ D ∧ supp B F H T b := by
        cases T with
        | fz =>
          rcases k1 with k1 | k1
          · exact ⟨nb k1, .inl (sHH'.free k1)⟩
          · exact Classical.byContradiction fun z => k1 (res_none z)
        | bo =>
          rcases k1 with k1 | k1 | k1
          · exact ⟨nb k1, .inl (sHH'.free k1)⟩
          · have z : b ≠ D ∧ supp B F H .fz b := Classical.byContradiction fun z => k1 (res_none z)
            exact ⟨z.1, z.2.elim .inl fun q => .inr (.inl q)⟩
          · exact ⟨fun z => k1 (by rw [z, hBD]), .inr (.inr k1)⟩
        | pk => exact absurd rfl hT
      exact res_some.mpr ⟨k3.2, res_some.mpr ⟨k3.1, k2⟩⟩
  · have hl : i = xs.length := by omega
    subst hl
    rw [List.drop_length] at hrest
    cases hrest
    rw [List.append_nil] at hcat
    subst hcat
    exact .inl ⟨g2 (Nat.le_refl _), q D vs Hm (s1.trans sm) hmD hr⟩
end
open PySem PySem.Spec PyProof.Rows L2
open Rp (rp)
inductive Fl (ν β ρ ε : Type) where
  | nx (s : ν) | bk (s : β) | ct (s : β) | rt (r : ρ) | xc (e : ε)
structure Fr (F : Hp) (As : List (List Addr)) (H F' : Hp) (As' : List (List Addr)) (H' : Hp) : Prop where
  keep : ∀ b o, H b = some o → b ∉ As.flatten → H' b = some o
  ff : Same F F'
  nA : ∀ b ∈ As'.flatten, b ∈ As.flatten ∨ H b = none
  nF : ∀ b, F' b ≠ none → b ∈ As.flatten ∨ F b ≠ none ∨ H b = none
theorem Fr.refl {F : Hp} {As : List (List Addr)} {H : Hp} : Fr F As H F As H := ⟨fun _ _ h _ => h, Same.refl _, fun b h => .inl h, fun b h => .inr (.inl h)⟩
theorem Fr.trans {F F1 F2 H H1 H2 : Hp} {As As1 As2 : List (List Addr)} (a : Fr F As H F1 As1 H1) (b : Fr F1 As1 H1 F2 As2 H2) : Fr F As H F2 As2 H2 := by
  have back : ∀ c, H1 c = none → c ∈ As.flatten ∨ H c = none := fun c q => by
    by_cases hc : c ∈ As.flatten
    · exact .inl hc
    · refine .inr ?_
      cases e : H c with
      | none => rfl
      | some o => rw [a.keep c o e hc] at q; cases q
  refine ⟨fun c o h hc => b.keep c o (a.keep c o h hc) fun z => ?_, a.ff.trans b.ff, fun c h => ?_, fun c h => ?_⟩
  · rcases a.nA c z with q | q
    · exact hc q
    · rw [h] at q; cases q
  · rcases b.nA c h with q | q
    · exact a.nA c q
    · exact back c q
  · rcases b.nF c h with q | q | q
    · exact (a.nA c q).imp id .inr
    · exact a.nF c q
    · exact (back c q).imp id .inr
theorem Fr.pure {F F' H H' : Hp} {As : List (List Addr)} (s : Same H H') (f : Same F F') (n : ∀ b, F' b ≠ none → F b ≠ none ∨ H b = none) : Fr F As H F' As H' := ⟨fun _ _ h _ => s _ _ h, f, fun b h => .inl h, fun b h => .inr (n b h)⟩
theorem Fr.sub {F F' H H' : Hp} {As As' As'' : List (List Addr)} (h : Fr F As H F' As' H') (k : ∀ b ∈ As''.flatten, b ∈ As'.flatten) : Fr F As H F' As'' H' := ⟨h.keep, h.ff, fun b z => h.nA b (k b z), h.nF⟩
def Wk {K : Frag} : List (Sl K) → List (Sl K) → Prop
  | _, [] => True
  | s :: Γ, t :: Δ => (t = s ∨ t = un) ∧ Wk Γ Δ
  | [], _ :: _ => False
theorem Mt.wk {K : Frag} {B F H : Hp} : ∀ {Γ Δ : List (Sl K)} {As : List (List Addr)} {σ : St}, Mt B F H Γ As σ → Wk Γ Δ → ∃ As', Mt B F H Δ As' (σ.take Δ.length) ∧ List.Sublist As'.flatten As.flatten
  | _, [], As, σ, _, _ => ⟨[], by simpa using Mt.nil, by simp⟩
  | [], _ :: _, _, _, _, h => h.elim
  | s :: Γ, t :: Δ, _, _, .cons (A := A) (As := As) (v := v) (σ := σ) h m, ⟨e, w⟩ => by
    obtain ⟨As', m', sl⟩ := m.wk w
    rcases e with rfl | rfl
    · exact ⟨A :: As', .cons h m', by rw [List.flatten_cons, List.flatten_cons]; exact sl.append_left A |> fun z => (List.Sublist.refl A).append sl⟩
    · exact ⟨[] :: As', .cons rfl m', by rw [List.flatten_cons, List.flatten_cons]; exact (List.nil_sublist A).append sl⟩
theorem Ok.wk {K : Frag} {B F H : Hp} {Γ Δ : List (Sl K)} {As : List (List Addr)} {σ : St} (ok : Ok B F Γ As σ H) (w : Wk Γ Δ) : ∃ As', Ok B F Δ As' (σ.take Δ.length) H ∧ ∀ b ∈ As'.flatten, b ∈ As.flatten := by
  obtain ⟨As', m, sl⟩ := ok.mt.wk w
  exact ⟨As', ⟨m, ok.sb, ok.sf, ok.nd.sublist sl, fun a h => ok.ff a (sl.subset h), fun a h => ok.fb a (sl.subset h)⟩, fun b h => sl.subset h⟩
theorem Ok.len {K : Frag} {B F H : Hp} {Γ : List (Sl K)} {As : List (List Addr)} {σ : St} (ok : Ok B F Γ As σ H) : σ.length = Γ.length := ok.mt.lens.2
theorem Ok.wk' {K : Frag} {B F H : Hp} {Γ Δ : List (Sl K)} {As : List (List Addr)} {σ : St} (ok : Ok B F Γ As σ H) (w : Wk Γ Δ) (hl : Γ.length = Δ.length) : ∃ As', Ok B F Δ As' σ H ∧ ∀ b ∈ As'.flatten, b ∈ As.flatten := by
  obtain ⟨As', o, h⟩ := ok.wk w
  rw [List.take_of_length_le (by rw [ok.len, hl]; exact Nat.le_refl _)] at o
  exact ⟨As', o, h⟩
structure Be (K : Frag) (β ρ ε : Type) where
  δ : β → List (Sl K)
  R : ρ → Sl K
  Pi : ρ → List (Sl K)
  xr : ε → Value → Option Addr → Hp → Prop
  W : WX
section
variable {K : Frag} {ν ν' β β' ρ ε : Type}
def post (E : Be K β ρ ε) (γ : ν → List (Sl K)) (B F : Hp) (As : List (List Addr)) (H : Hp) (D : Ends) : Fl ν β ρ ε → Prop
  | .nx s => ∀ F' As' σ' H', Ok B F' (γ s) As' σ' H' → Fr F As H F' As' H' → D.nx σ' H'
  | .bk s => ∀ F' As' σ' H', Ok B F' (E.δ s) As' σ' H' → Fr F As H F' As' H' → D.bk σ' H'
  | .ct s => ∀ F' As' σ' H', Ok B F' (E.δ s) As' σ' H' → Fr F As H F' As' H' → D.ct σ' H'
  | .rt r => ∀ v F' A As' σ' H', Ok B F' (E.R r :: E.Pi r) (A :: As') (some v :: σ') H' → Fr F As H F' (A :: As') H' → D.rt v H'
  | .xc e => ∀ cls d σ' F' As' H', E.xr e cls d F' → Same F' H' → Fr F As H F' As' H' → E.W cls d σ' H'
theorem post.mono {E : Be K β ρ ε} {γ : ν → List (Sl K)} {B F F1 H H1 : Hp} {As As1 : List (List Addr)} {D : Ends} {o : Fl ν β ρ ε} (h : post E γ B F As H D o) (k : Fr F As H F1 As1 H1) : post E γ B F1 As1 H1 D o := by
  cases o with
  | nx s => exact fun F' As' σ' H' ok fr => h F' As' σ' H' ok (k.trans fr)
  | bk s => exact fun F' As' σ' H' ok fr => h F' As' σ' H' ok (k.trans fr)
  | ct s => exact fun F' As' σ' H' ok fr => h F' As' σ' H' ok (k.trans fr)
  | rt r => exact fun v F' A As' σ' H' ok fr => h v F' A As' σ' H' ok (k.trans fr)
  | xc e => exact fun c d σ' F' As' H' x s fr => h c d σ' F' As' H' x s (k.trans fr)
def tBk (E : Be K β ρ ε) (γ : ν → List (Sl K)) (Γ : List (Sl K)) (m : Option (Fl ν β ρ ε)) : TS := fun D σ H => ∃ B F As, Ok B F Γ As σ H ∧ ∃ o, m = some o ∧ post E γ B F As H D o
end
def Bk {ν β ρ ε : Type} (X : Cx) (E : Be X.K β ρ ε) (γ : ν → List (Sl X.K)) (Γ : List (Sl X.K)) (ss : List Stmt) (m : Option (Fl ν β ρ ε)) : Prop := PSs X ss (tBk E γ Γ m)
def tEvM {K : Frag} (Γ : List (Sl K)) (s : Sl K) (Γ' : List (Sl K)) : TE := fun σ H Q => ∃ B F As, Ok B F Γ As σ H ∧ ∀ v A F' As' H', Ok B F' (s :: Γ') (A :: As') (some v :: σ) H' → Fr F As H F' (A :: As') H' → Q v H'
def EvM (X : Cx) (Γ : List (Sl X.K)) (e : Expr) (s : Sl X.K) (Γ' : List (Sl X.K)) : Prop := PE X e (tEvM Γ s Γ')
section
variable {K : Frag} {X : Cx} {Γ Γ' Γ1 Γ2 : List (Sl X.K)} {e a b c : Expr} {S T : Sup} {α β' : Type} [Rp α] [Rp β'] {pos p1 : Pos} {s : Sl X.K}
theorem Ok.cons {B F H : Hp} {Γ : List (Sl K)} {As : List (List Addr)} {σ : St} {s : Sl K} {A : List Addr} {v : Option V} (ok : Ok B F Γ As σ H) (h : s.p B F H A v) (hn : A.Nodup) (ha : ∀ a ∈ A, a ∉ As.flatten ∧ F a = none ∧ B a = none) : Ok B F (s :: Γ) (A :: As) (v :: σ) H :=
  ⟨.cons h ok.mt, ok.sb, ok.sf, by rw [List.flatten_cons, List.nodup_append]; exact ⟨hn, ok.nd, fun x hx y hy e => (ha x hx).1 (e ▸ hy)⟩,
    fun a h => by rw [List.flatten_cons] at h; exact (List.mem_append.mp h).elim (fun z => (ha a z).2.1) (ok.ff a), fun a h => by rw [List.flatten_cons] at h; exact (List.mem_append.mp h).elim (fun z => (ha a z).2.2) (ok.fb a)⟩
theorem Ok.tail {B F H : Hp} {Γ : List (Sl K)} {As : List (List Addr)} {σ : St} {s : Sl K} {A : List Addr} {v : Option V} (ok : Ok B F (s :: Γ) (A :: As) (v :: σ) H) : Ok B F Γ As σ H := by
  obtain ⟨m, sb, sf, nd, ff, fb⟩ := ok
  cases m with
  | cons _ m =>
    rw [List.flatten_cons] at nd ff fb
    exact ⟨m, sb, sf, (List.nodup_append.mp nd).2.1, fun a h => ff a (List.mem_append_right _ h), fun a h => fb a (List.mem_append_right _ h)⟩
theorem Ok.head {B F H : Hp} {Γ : List (Sl K)} {As : List (List Addr)} {σ : St} {s : Sl K} {A : List Addr} {v : Option V} (ok : Ok B F (s :: Γ) (A :: As) (v :: σ) H) : s.p B F H A v ∧ A.Nodup ∧ ∀ a ∈ A, a ∉ As.flatten ∧ F a = none ∧ B a = none := by
  obtain ⟨m, sb, sf, nd, ff, fb⟩ := ok
  cases m with
  | cons h m =>
    rw [List.flatten_cons] at nd ff fb
    obtain ⟨n1, n2, n3⟩ := List.nodup_append.mp nd
    exact ⟨h, n1, fun a ha => ⟨fun z => n3 a ha a z rfl, ff a (List.mem_append_left _ ha), fb a (List.mem_append_left _ ha)⟩⟩
theorem Ok.store {B F H : Hp} {Γ : List (Sl K)} {As : List (List Addr)} {σ : St} {s : Sl K} {A : List Addr} {v : Option V} (ok : Ok B F (s :: Γ) (A :: As) (v :: σ) H) (i : Nat) : Ok B F (Γ.set i s) (As.set i A) (σ.set i v) H := by
  obtain ⟨h, n, k⟩ := ok.head
  exact ok.tail.set i h n k
theorem EvO.m (h : EvO X Γ e s) : EvM X Γ e s Γ := PE.imp h fun σ H Q ⟨B, F, As, ok, q⟩ => ⟨B, F, As, ok, fun v H' A F' sH sF sF' nF fr nd hp => by
  refine q v A F' As H' ?_ ⟨fun b o h _ => sH _ _ h, sF, fun b hb => ?_, fun b hb => .inr (nF b hb)⟩
  · refine Ok.cons ⟨ok.mt.fr sF (ok.eqs sH), ok.sb.trans sH, sF', ok.nd, fun a ha => ?_, ok.fb⟩ hp nd fun a ha => ⟨fun z => ok.mt.lv a z (fr a ha).1, (fr a ha).2, ok.sb.free (fr a ha).1⟩
    cases e : F' a with
    | none => rfl
    | some o =>
      rcases nF a (by rw [e]; simp) with z | z
      · exact absurd (ok.ff a ha) z
      · exact absurd z (ok.mt.lv a ha)
  · rw [List.flatten_cons] at hb
    exact (List.mem_append.mp hb).elim (fun z => .inr (fr b z).1) .inl⟩
theorem Ev.m {x : α} (h : Ev X Γ e .fz (va x)) : EvM X Γ e (fz x) Γ := h.own.m
variable {ν ν' β ρ ε : Type} {E : Be X.K β ρ ε} {γ : ν → List (Sl X.K)} {ss rest : List Stmt} {m : Option (Fl ν β ρ ε)}
theorem Bk.nil {x : ν} (w : Wk Γ (γ x)) (hl : Γ.length = (γ x).length := by rfl) : Bk X E γ Γ [] (some (.nx x)) := PSs.imp pss_nil fun D σ H ⟨B, F, As, ok, o, e, q⟩ => by
  cases e
  obtain ⟨As', ok', k⟩ := ok.wk' w hl
  exact q F As' σ H ok' (Fr.refl.sub k)
theorem Bk.bnd {γ' : Type} {o : Option γ'} {k : γ' → Option (Fl ν β ρ ε)} (h : ∀ t, o = some t → Bk X E γ Γ ss (k t)) : Bk X E γ Γ ss (o.bind k) := by
  cases o with
  | none => exact ⟨fun pins s σ H D I ⟨B, F, As, ok, o, e, q⟩ => nomatch e⟩
  | some t => exact h t rfl
theorem Bk.asgn (i : Nat) {n : Str} {p2 : Pos} (hN : X.N.Nodup) (he : EvM X Γ e s Γ') (hr : Bk X E γ (Γ'.set i s) rest m) (hi : X.N[i]? = some n := by rfl) (hx : Loc X.env.scope n := by first | exact Or.inl rfl | exact Or.inr rfl)
    (hs : swapsWith e (some (.Name n p2)) pos.line X.env = pure false := by rfl) (hf : X.fn n = true ∨ X.env.scope.names.lookup n = some .local := by first | exact .inl rfl | exact .inr rfl | assumption) : Bk X E γ Γ (.Assign [.Name n p2] e pos :: rest) m :=
  PSs.imp (pss_cons (ps_set hN hi hx he hs hf) hr) fun D σ H ⟨B, F, As, ok, o, em, q⟩ => ⟨B, F, As, ok, fun v A F' As' H' ok' fr => ⟨B, F', As'.set i A, ok'.store i, o, em, q.mono (fr.sub fun b hb => by
    rw [List.flatten_cons]; exact List.mem_append.mpr (mem_flat_set hb))⟩⟩
theorem Bk.asgnLc (i : Nat) {n : Str} {p2 : Pos} {zs : List α} (hN : X.N.Nodup) (he : LcOk X Γ e .fz zs) (hr : Bk X E γ (Γ.set i (oL any zs)) rest m) (hl : ∀ elt gs scope cp, e = .ListComp elt gs scope cp → (p2.line == cp.line) = true := by intro _ _ _ _ h; cases h; rfl) (hi : X.N[i]? = some n := by rfl)
    (hk : X.env.scope.kind = .function := by rfl) (hx : X.env.scope.names.lookup n = some .local := by rfl)
    (ha : ∀ elt gs scope pos, e = .ListComp elt gs scope pos → (scope.names.any fun (n', k) => n' == n && (k == .local || k == .cell)) = false := by intro _ _ _ _ h; cases h; decide +kernel) : Bk X E γ Γ (.Assign [.Name n p2] e pos :: rest) m := by
  obtain ⟨elt, tg, iter, ifs, scope, own, cpos, wi, g, tt, te, rfl, hc, _, hi', okB, hg, ht, hee, hs, k⟩ := he
  refine PSs.imp (pss_cons (ps_setLc hc hN hi hx (sw_true hk hx (hl _ _ _ _ rfl) (ha _ _ _ _ rfl)) hi' okB hg ht hee hs) hr) fun D σ H ⟨B, F, As, ok, o, em, q⟩ => ?_
  refine k σ H (fun x H1 => gName i x σ H1 (tBk E γ (Γ.set i (oL any zs)) m D)) ⟨B, F, As, ok, fun a vs H1 sH hn hr' => ?_⟩
  have okF := ok.freeze sH
  have hFa : res H1 (supp B F H .fz) a = none := by
    cases e : res H1 (supp B F H .fz) a with
    | none => rfl
    | some o => rw [(res_some.mp e).2] at hn; cases hn
  have ok1 : Ok B (res H1 (supp B F H .fz)) Γ As σ (upd H1 a (.lst vs)) := okF.grow (same_upd hn)
  have ok2 := ok1.set (s := oL any zs) (A := [a]) (v := some (.ref a)) i ⟨a, vs, rfl, rfl, trivial, upd_same, hr'⟩ (by simp) (fun b hb => by
    have e : b = a := by simpa using hb
    subst e
    exact ⟨fun z => okF.mt.lv b z hn, hFa, ok.sb.free (sH.free hn)⟩)
  refine ⟨B, _, _, ok2, o, em, q.mono ⟨fun b o h _ => sH.trans (same_upd hn) _ _ h, fun b o h => res_some.mpr ⟨.inr (by rw [h]; simp), sH _ _ (ok.sf _ _ h)⟩, fun b hb => ?_, fun b hb => ?_⟩⟩
  · rcases mem_flat_set hb with z | z
    · have e : b = a := by simpa using z
      rw [e]; exact .inr (sH.free hn)
    · exact .inl z
  · have z : supp B F H .fz b := Classical.byContradiction fun z => hb (res_none z)
    exact .inr (z.elim .inr .inl)
theorem Bk.ret {x : ρ} (he : EvM X Γ e (E.R x) Γ') (w : Wk Γ' (E.Pi x)) : Bk X E γ Γ (.Return (some e) pos :: rest) (some (.rt x)) :=
  PSs.imp (pss_cons (ps_ret he) (pss_never (sts := rest))) fun D σ H ⟨B, F, As, ok, o, em, q⟩ => by
    cases em
    refine ⟨B, F, As, ok, fun v A F' As' H' ok' fr => ?_⟩
    obtain ⟨As2, ok2, k⟩ := ok'.tail.wk w
    obtain ⟨h, n, ha⟩ := ok'.head
    exact q v F' A As2 _ H' (ok2.cons h n fun a z => ⟨fun y => (ha a z).1 (k a y), (ha a z).2⟩) (fr.sub fun b hb => by
      rw [List.flatten_cons] at hb ⊢
      exact (List.mem_append.mp hb).elim (List.mem_append_left _) fun z => List.mem_append_right _ (k b z))
theorem notin_set {a : Addr} : ∀ {As : List (List Addr)} {i : Nat}, As.flatten.Nodup → As[i]? = some [a] → a ∉ (As.set i []).flatten
  | [], _, _, h => by simp at h
  | A0 :: As, 0, nd, h => by
    rw [List.flatten_cons, List.nodup_append] at nd
    simp at h; subst h
    show a ∉ ([] :: As).flatten
    rw [List.flatten_cons, List.nil_append]
    exact fun z => nd.2.2 a (by simp) a z rfl
  | A0 :: As, i + 1, nd, h => by
    rw [List.flatten_cons, List.nodup_append] at nd
    have hA' : As[i]? = some [a] := by simpa using h
    show a ∉ (A0 :: As.set i []).flatten
    rw [List.flatten_cons]
    intro z
    rcases List.mem_append.mp z with z | z
    · exact nd.2.2 a z a (List.mem_flatten.mpr ⟨[a], List.mem_of_getElem? hA', by simp⟩) rfl
    · exact notin_set nd.2.1 hA' z
theorem set_self {l : St} {i : Nat} {x : Option V} (h : l[i]? = some x) : l.set i x = l := by
  apply List.ext_getElem?
  intro j
  by_cases e : i = j
  · subst e
    rw [List.getElem?_set_self (List.getElem?_eq_some_iff.mp h).1, h]
  · rw [List.getElem?_set_ne e]
theorem freeze_at {B F H : Hp} {Γ : List (Sl K)} {As : List (List Addr)} {σ : St} {w : V → Prop} {xs : List α} {i : Nat} (ok : Ok B F Γ As σ H) (hi : Γ[i]? = some (oL w xs)) : ∃ F', Same F F' ∧ Ok B F' (Γ.set i (fz xs)) (As.set i []) σ H ∧ ∀ b, F' b ≠ none → b ∈ As.flatten ∨ F b ≠ none := by
  obtain ⟨A, v, hA, hs, a, vs, e, e2, ww, h, r⟩ := ok.mt.get hi
  subst e e2
  have ha : a ∈ As.flatten := List.mem_flatten.mpr ⟨[a], List.mem_of_getElem? hA, by simp⟩
  have hFa := ok.ff a ha
  have sF : Same F (upd F a (.lst vs)) := same_upd hFa
  have sH : Same (upd F a (.lst vs)) H := fun b o hb => by
    by_cases e : b = a
    · subst e; rw [upd_same] at hb; cases hb; exact h
    · rw [upd_ne e] at hb; exact ok.sf _ _ hb
  have hnotin := notin_set ok.nd hA
  have ok0 : Ok B F (Γ.set i un) (As.set i []) σ H := by
    have := ok.set (s := un) (A := []) (v := some (.ref a)) i rfl List.nodup_nil fun a z => by cases z
    rwa [set_self hs] at this
  have ok1 : Ok B (upd F a (.lst vs)) (Γ.set i un) (As.set i []) σ H := ⟨ok0.mt.fr sF fun _ _ => rfl, ok0.sb, sH, ok0.nd, fun b hb => by rw [upd_ne (fun e => by rw [e] at hb; exact hnotin hb)]; exact ok0.ff b hb, ok0.fb⟩
  have ok2 := ok1.set (s := fz xs) (A := []) (v := some (.ref a)) i ⟨rfl, _, rfl, a, vs, rfl, upd_same, r.mono fun _ _ => Rp.mono sF⟩ List.nodup_nil fun a z => by cases z
  rw [List.set_set, List.set_set] at ok2
  rw [set_self hs] at ok2
  refine ⟨_, sF, ok2, fun b hb => ?_⟩
  by_cases e : b = a
  · rw [e]; exact .inl ha
  · rw [upd_ne e] at hb; exact .inr hb
theorem flat_nil_set {As : List (List Addr)} {i : Nat} {b : Addr} (h : b ∈ (As.set i []).flatten) : b ∈ As.flatten := (mem_flat_set h).elim (fun z => by cases z) id
theorem Bk.freeze (i : Nat) {w : V → Prop} {xs : List α} (h : Bk X E γ (Γ.set i (fz xs)) ss m) (hi : Γ[i]? = some (oL w xs) := by rfl) : Bk X E γ Γ ss m := PSs.imp h fun D σ H ⟨B, F, As, ok, o, em, q⟩ => by
  obtain ⟨F', sF, ok', k⟩ := freeze_at ok hi
  exact ⟨B, F', As.set i [], ok', o, em, q.mono ⟨fun _ _ h _ => h, sF, fun b hb => .inl (flat_nil_set hb), fun b hb => (k b hb).imp id .inl⟩⟩
end
open PySem PySem.Spec PyProof.Rows L2
open Rp (rp)
def bindD {ν ν' β ρ ε : Type} (m : Option (Fl ν β ρ ε)) (k : ν → Option (Fl ν' β ρ ε)) : Option (Fl ν' β ρ ε) := match m with
  | some (.nx s) => k s
  | some (.bk s) => some (.bk s)
  | some (.ct s) => some (.ct s)
  | some (.rt r) => some (.rt r)
  | some (.xc e) => some (.xc e)
  | none => none
def forD {α σ β ρ ε : Type} : List α → (σ → α → Option (Fl σ σ ρ ε)) → σ → Option (Fl σ β ρ ε)
  | [], _, s => some (.nx s)
  | x :: xs, f, s => match f s x with
    | some (.nx s') => forD xs f s'
    | some (.ct s') => forD xs f s'
    | some (.bk s') => some (.nx s')
    | some (.rt r) => some (.rt r)
    | some (.xc e) => some (.xc e)
    | none => none
def whileN {σ β ρ ε : Type} (t : σ → Option Bool) (f : σ → Option (Fl σ σ ρ ε)) : Nat → σ → Option (Fl σ β ρ ε)
  | 0, _ => none
  | n + 1, s => match t s with
    | none => none
    | some false => some (.nx s)
    | some true => match f s with
      | some (.nx s') => whileN t f n s'
      | some (.ct s') => whileN t f n s'
      | some (.bk s') => some (.nx s')
      | some (.rt r) => some (.rt r)
      | some (.xc e) => some (.xc e)
      | none => none
open Classical in
noncomputable def whileD {σ β ρ ε : Type} (t : σ → Option Bool) (f : σ → Option (Fl σ σ ρ ε)) (s : σ) : Option (Fl σ β ρ ε) :=
  if h : ∃ n r, whileN (β := β) t f n s = some r then whileN t f (choose h) s else none
abbrev gNo {K : Frag} {ν : Type} : ν → List (Sl K) := fun _ => [bot]
section
variable {K : Frag} {X : Cx} {Γ Γ' Γ1 Γ2 : List (Sl X.K)} {e a b c tg iter : Expr} {S T : Sup} {α : Type} [Rp α] {pos p1 : Pos} {s : Sl X.K}
variable {ν ν' β ρ ε : Type} {E : Be X.K β ρ ε} {γ : ν → List (Sl X.K)} {γ' : ν' → List (Sl X.K)} {ss rest bA bB : List Stmt} {m mA mB : Option (Fl ν β ρ ε)} {p : Bool}
theorem Ok.nobot {B F H : Hp} {As : List (List Addr)} {σ : St} (ok : Ok B F [(bot : Sl K)] As σ H) : False := by
  obtain ⟨m, _, _, _, _, _⟩ := ok
  cases m with
  | cons h _ => exact h
theorem PSs.t {X : Cx} {c : Expr} {a b : List Stmt} {tc : TT} {t u : TS} {pos : Pos} (hc : PT X c tc) (ha : PSs X a t) (hb : PSs X b u) : PS X (.If c a b pos) (tIfS tc t u) := ps_if hc ha hb
theorem Bk.ite {mA mB : Option (Fl ν' β ρ ε)} {k : ν' → Option (Fl ν β ρ ε)} (hc : EvT X Γ c p) (hA : p = true → Bk X E γ' Γ bA mA) (hB : p = false → Bk X E γ' Γ bB mB) (hr : ∀ s, Bk X E γ (γ' s) rest (k s)) :
    Bk X E γ Γ (.If c bA bB pos :: rest) (bindD (if p = true then mA else mB) k) := by
  -- the rest, whatever the state there
  have hrest : PSs X rest (fun D σ H => ∃ s, tBk E γ (γ' s) (k s) D σ H) := ⟨fun pins s σ H D I ⟨x, q⟩ => (hr x).run pins s σ H D I q⟩
  have go : ∀ {mm : Option (Fl ν' β ρ ε)} {D : Ends} {σ : St} {H H1 : Hp} {B F : Hp} {As : List (List Addr)} {o : Fl ν β ρ ε}, Ok B F Γ As σ H → Same H H1 → bindD mm k = some o → post E γ B F As H D o →
      tBk E γ' Γ mm { D with nx := fun σ H => ∃ s, tBk E γ (γ' s) (k s) D σ H } σ H1 := fun {mm D σ H H1 B F As o} ok sH em q => by
    have q' := q.mono (Fr.pure (As := As) sH (Same.refl F) fun b hb => .inl hb)
    cases mm with
    | none => cases em
    | some f =>
      refine ⟨B, F, As, ok.grow sH, f, rfl, ?_⟩
      cases f with
      | nx s => exact fun F' As' σ' H' ok' fr => ⟨s, B, F', As', ok', o, em, q'.mono fr⟩
      | bk s => cases em; exact q'
      | ct s => cases em; exact q'
      | rt r => cases em; exact q'
      | xc e => cases em; exact q'
  cases p with
  | true =>
    refine ⟨fun pins s σ H D I ⟨B, F, As, ok, o, em, q⟩ => ?_⟩
    refine (pss_cons (ps_if (tc := tEvT Γ true) (u := tNever) hc (hA rfl) pss_never) hrest).run pins s σ H D I ?_
    exact ⟨B, F, As, ok, fun H1 sH => iteT (go ok sH em q)⟩
  | false =>
    refine ⟨fun pins s σ H D I ⟨B, F, As, ok, o, em, q⟩ => ?_⟩
    refine (pss_cons (ps_if (tc := tEvT Γ false) (t := tNever) hc pss_never (hB rfl)) hrest).run pins s σ H D I ?_
    exact ⟨B, F, As, ok, fun H1 sH => iteF (go ok sH em q)⟩
theorem Bk.iteR (hc : EvT X Γ c p) (hA : p = true → Bk X E (gNo : ν → _) Γ bA mA) (hr : p = false → Bk X E γ Γ rest m) : Bk X E γ Γ (.If c bA [] pos :: rest) (if p = true then mA else m) := by
  cases p with
  | true =>
    refine ⟨fun pins s σ H D I ⟨B, F, As, ok, o, em, q⟩ => ?_⟩
    refine (pss_cons (ps_if (tc := tEvT Γ true) (u := tNever) hc (hA rfl) pss_never) pss_never).run pins s σ H D I ?_
    refine ⟨B, F, As, ok, fun H1 sH => iteT ⟨B, F, As, ok.grow sH, o, em, ?_⟩⟩
    have q' := q.mono (Fr.pure (As := As) sH (Same.refl F) fun b hb => .inl hb)
    cases o with
    | nx s => exact fun F' As' σ' H' ok' fr => ok'.nobot.elim
    | bk s => exact q'
    | ct s => exact q'
    | rt r => exact q'
    | xc e => exact q'
  | false =>
    refine ⟨fun pins s σ H D I ⟨B, F, As, ok, o, em, q⟩ => ?_⟩
    refine (pss_cons (ps_if (tc := tEvT Γ false) (t := tNever) hc pss_never pss_nil) (hr rfl)).run pins s σ H D I ?_
    exact ⟨B, F, As, ok, fun H1 sH => iteF ⟨B, F, As, ok.grow sH, o, em, q.mono (Fr.pure sH (Same.refl F) fun b hb => .inl hb)⟩⟩
theorem Bk.brk {x : β} (w : Wk Γ (E.δ x)) (hl : Γ.length = (E.δ x).length := by rfl) : Bk X E γ Γ (.Break pos :: rest) (some (.bk x)) := PSs.imp (pss_cons ps_break (pss_never (sts := rest))) fun D σ H ⟨B, F, As, ok, o, e, q⟩ => by
  cases e
  obtain ⟨As', ok', k⟩ := ok.wk' w hl
  exact q F As' σ H ok' (Fr.refl.sub k)
theorem Bk.cont {x : β} (w : Wk Γ (E.δ x)) (hl : Γ.length = (E.δ x).length := by rfl) : Bk X E γ Γ (.Continue pos :: rest) (some (.ct x)) := PSs.imp (pss_cons ps_continue (pss_never (sts := rest))) fun D σ H ⟨B, F, As, ok, o, e, q⟩ => by
  cases e
  obtain ⟨As', ok', k⟩ := ok.wk' w hl
  exact q F As' σ H ok' (Fr.refl.sub k)
theorem Bk.pass (h : Bk X E γ Γ rest m) : Bk X E γ Γ (.Pass pos :: rest) m := PSs.imp (pss_cons ps_pass h) fun D σ H q => q
abbrev Be.lp {K : Frag} {β ρ ε σ : Type} (E : Be K β ρ ε) (δ : σ → List (Sl K)) : Be K σ ρ ε := { δ := δ, R := E.R, Pi := E.Pi, xr := E.xr, W := E.W }
theorem PS.forW {wi : TI} {σt : Type} {xs : List α} {body : List Stmt} {ws : List Nat} {δ : σt → List (Sl X.K)} {τ : σt → α → List (Sl X.K)} {f : σt → α → Option (Fl σt σt ρ ε)} {s0 : σt} {k : σt → Option (Fl ν β ρ ε)}
    (hc : X.calm = true) (hp : PassesOwn (model X.prog X.w) X.A X.env X.xe) (hi : PI X tg iter wi) (hwi : ∀ σ H R, (∃ B F As, Ok B F Γ As σ H ∧ ∀ F1 As1 H0 J H1, Ok B F1 Γ1 As1 σ H0 → Fr F As H F1 As1 H0 → Same H0 H1 → xs.length ≤ sizeLine → Good X.K J xs (res H1 (supp B F1 H0 T)) (res H1 (supp B F1 H0 S)) → R J H1) → wi σ H R) (hT : T ≠ .pk) (hS : S ≠ .pk)
    (w : Wk Γ1 (δ s0)) (hl : Γ1.length = (δ s0).length)
    (hg : ∀ s y, Tg X tg ws S y (δ s) (τ s y)) (hb : ∀ s y, Bk X (E.lp δ) δ (τ s y) body (f s y))
    (hs : ∀ x, foldedSetIterable iter X.env x = pure x := by intro _; rfl) : PS X (.For tg iter body [] pos) (fun D1 σ H => ∃ D : Ends, D1 = { D with nx := fun σ H => ∃ s, tBk E γ (δ s) (k s) D σ H } ∧ tBk E γ Γ (bindD (forD xs f s0) k) D σ H) := by
  have hbody : PSs X body (fun D σ H => ∃ s y, tBk (E.lp δ) δ (τ s y) (f s y) D σ H) := ⟨fun pins s σ H D I ⟨x, y, q⟩ => (hb x y).run pins s σ H D I q⟩
  have hgg : PG X tg (fun v σ H Q => ∃ s y, tG ws S y (δ s) (τ s y) v σ H Q) := ⟨fun pins s σ H v u Q I r ⟨x, y, q⟩ => (hg x y).run pins s σ H v u Q I r q⟩
  refine PS.imp (ps_for hp hc hi hgg hbody hs) fun D1 σ H ⟨D, eD, B, Fa, Asa, oka, o, em, qa⟩ => ?_
  subst eD
  refine hwi _ _ _ ⟨B, Fa, Asa, oka, fun F As H J H1 ok fra s1 hlen good => ?_⟩
  have q := qa.mono fra
  -- the start
  have ok1 := ok.freeze s1
  obtain ⟨As1, ok1', sub1⟩ := ok1.wk' w hl
  have fr1 : Fr F As H (res H1 (supp B F H .fz)) As1 H1 := by
    refine Fr.sub ⟨fun b o h _ => s1 _ _ h, fun b o h => res_some.mpr ⟨.inr (by rw [h]; simp), s1 _ _ (ok.sf _ _ h)⟩, fun b hb => .inl hb, fun b hb => ?_⟩ sub1
    have z : supp B F H .fz b := Classical.byContradiction fun z => hb (res_none z)
    exact .inr (z.elim .inr .inl)
  -- what is walked stays
  have stayS : ∀ {U : Sup} {F' H' : Hp} {As' : List (List Addr)}, U ≠ .pk → Fr F As H F' As' H' → Same (res H1 (supp B F H .fz)) F' → Same F' H' → Same B H' → Same (res H1 (supp B F H U)) H' := fun {U F' H' As'} hU fr sf sf' sb b o h => by
    obtain ⟨h1, h2⟩ := res_some.mp h
    have fzc : supp B F H .fz b → H' b = some o := fun z => sf' _ _ (sf _ _ (res_some.mpr ⟨z, h2⟩))
    cases U with
    | fz => exact fzc h1
    | bo =>
      rcases h1 with z | z | z
      · exact fzc (.inl z)
      · exact fzc (.inr z)
      · cases e : B b with
        | none => exact absurd e z
        | some o' =>
          have e1 := (ok.sb.trans s1) _ _ e
          rw [h2] at e1
          rw [sb _ _ e, e1]
    | pk => exact absurd rfl hU
  refine ⟨fun i n σ' H' => n = xs.length - i ∧ i ≤ xs.length ∧ ∃ s F' As', Ok B F' (δ s) As' σ' H' ∧ Fr F As H F' As' H' ∧ Same (res H1 (supp B F H .fz)) F' ∧ bindD (forD (xs.drop i) f s) k = some o,
    ⟨xs.length, by simp, Nat.zero_le _, s0, _, As1, ok1', fr1, Same.refl _, by simpa using em⟩, ?_⟩
  rintro i n σ' H' ⟨rfl, hi', s, F', As', ok', fr', sF', em'⟩
  obtain ⟨g1, g2⟩ := good i H' (stayS hT fr' sF' ok'.sf ok'.sb) (stayS hS fr' sF' ok'.sf ok'.sb)
  by_cases hlt : i < xs.length
  · refine .inr ⟨(g1 xs[i] (List.getElem?_eq_getElem hlt)).1, fun σ2 H2 => ∃ n', n' < xs.length - i ∧ n' = xs.length - (i + 1) ∧ i + 1 ≤ xs.length ∧ ∃ s F' As', Ok B F' (δ s) As' σ2 H2 ∧ Fr F As H F' As' H2 ∧ Same (res H1 (supp B F H .fz)) F' ∧ bindD (forD (xs.drop (i + 1)) f s) k = some o,
      fun σ2 H2 ⟨n', h1, h2⟩ => ⟨n', h1, h2⟩, fun x H2 hy => ?_⟩
    obtain ⟨sy, ry⟩ := (g1 xs[i] (List.getElem?_eq_getElem hlt)).2 x H2 hy
    have ok2 := ok'.freeze sy
    have sF2 : Same F' (res H2 (supp B F' H' .fz)) := fun b o h => res_some.mpr ⟨.inr (by rw [h]; simp), sy _ _ (ok'.sf _ _ h)⟩
    have hyS : rpS X.K S B (res H2 (supp B F' H' .fz)) x xs[i] := by
      refine ⟨hS, _, ry, fun b o h => ?_⟩
      obtain ⟨h1, h2⟩ := res_some.mp h
      rcases h1 with h1 | h1
      · have z : res H2 (supp B F' H' .fz) b = some o := res_some.mpr ⟨.inl h1, h2⟩
        cases S with
        | fz => exact z
        | bo => exact .inl z
        | pk => exact absurd rfl hS
      · cases e : res H1 (supp B F H S) b with
        | none => exact absurd e h1
        | some o' =>
          obtain ⟨z1, z2⟩ := res_some.mp e
          have fzc : supp B F H .fz b → res H2 (supp B F' H' .fz) b = some o := fun z => by
            have q1 : F' b = some o' := sF' _ _ (res_some.mpr ⟨z, z2⟩)
            exact res_some.mpr ⟨.inr (by rw [q1]; simp), h2⟩
          cases S with
          | fz => exact fzc z1
          | bo =>
            rcases z1 with z | z | z
            · exact .inl (fzc (.inl z))
            · exact .inl (fzc (.inr z))
            · refine .inr ?_
              cases e2 : B b with
              | none => exact absurd e2 z
              | some o2 =>
                have := (ok'.sb.trans sy) _ _ e2
                rw [h2] at this; exact this.symm
          | pk => exact absurd rfl hS
    refine ⟨s, xs[i], B, _, As', ok2, hyS, fun As3 σ3 ok3 sub3 _ => ?_⟩
    rw [List.drop_eq_getElem_cons hlt] at em'
    have fr3 : Fr F As H (res H2 (supp B F' H' .fz)) As3 H2 := by
      refine Fr.trans fr' (Fr.sub ⟨fun b o h _ => sy _ _ h, sF2, fun b hb => .inl hb, fun b hb => ?_⟩ sub3)
      have z : supp B F' H' .fz b := Classical.byContradiction fun z => hb (res_none z)
      exact .inr (z.elim .inr .inl)
    have q3 := q.mono fr3
    unfold forD at em'
    refine ⟨s, xs[i], B, _, As3, ok3, ?_⟩
    have step : ∀ {s' : σt} {F4 H4 : Hp} {As4 : List (List Addr)} {σ4 : St}, Ok B F4 (δ s') As4 σ4 H4 → Fr (res H2 (supp B F' H' .fz)) As3 H2 F4 As4 H4 → bindD (forD (xs.drop (i + 1)) f s') k = some o →
        ∃ n', n' < xs.length - i ∧ n' = xs.length - (i + 1) ∧ i + 1 ≤ xs.length ∧ ∃ s F' As', Ok B F' (δ s) As' σ4 H4 ∧ Fr F As H F' As' H4 ∧ Same (res H1 (supp B F H .fz)) F' ∧ bindD (forD (xs.drop (i + 1)) f s) k = some o :=
      fun {s' F4 H4 As4 σ4} ok4 fr4 em4 => ⟨_, by omega, rfl, hlt, s', F4, As4, ok4, fr3.trans fr4, (sF'.trans sF2).trans fr4.ff, em4⟩
    cases ef : f s xs[i] with
    | none => rw [ef] at em'; cases em'
    | some r =>
      refine ⟨r, rfl, ?_⟩
      rw [ef] at em'
      cases r with
      | nx s' => exact fun F4 As4 σ4 H4 ok4 fr4 => step ok4 fr4 em'
      | ct s' => exact fun F4 As4 σ4 H4 ok4 fr4 => step ok4 fr4 em'
      | bk s' => exact fun F4 As4 σ4 H4 ok4 fr4 => ⟨s', B, F4, As4, ok4, o, em', q3.mono fr4⟩
      | rt r => cases em'; exact q3
      | xc e => cases em'; exact q3
  · have e : i = xs.length := by omega
    subst e
    rw [List.drop_length] at em'
    exact .inl ⟨g2 (Nat.le_refl _), s, B, F', As', ok', o, em', q.mono fr'⟩
theorem Bk.forW {wi : TI} {σt : Type} {xs : List α} {body : List Stmt} {ws : List Nat} {δ : σt → List (Sl X.K)} {τ : σt → α → List (Sl X.K)} {f : σt → α → Option (Fl σt σt ρ ε)} {s0 : σt} {k : σt → Option (Fl ν β ρ ε)}
    (hc : X.calm = true) (hp : PassesOwn (model X.prog X.w) X.A X.env X.xe) (hi : PI X tg iter wi) (hwi : ∀ σ H R, (∃ B F As, Ok B F Γ As σ H ∧ ∀ F1 As1 H0 J H1, Ok B F1 Γ1 As1 σ H0 → Fr F As H F1 As1 H0 → Same H0 H1 → xs.length ≤ sizeLine → Good X.K J xs (res H1 (supp B F1 H0 T)) (res H1 (supp B F1 H0 S)) → R J H1) → wi σ H R) (hT : T ≠ .pk) (hS : S ≠ .pk)
    (w : Wk Γ1 (δ s0)) (hl : Γ1.length = (δ s0).length)
    (hg : ∀ s y, Tg X tg ws S y (δ s) (τ s y)) (hb : ∀ s y, Bk X (E.lp δ) δ (τ s y) body (f s y)) (hr : ∀ s, Bk X E γ (δ s) rest (k s))
    (hs : ∀ x, foldedSetIterable iter X.env x = pure x := by intro _; rfl) : Bk X E γ Γ (.For tg iter body [] pos :: rest) (bindD (forD xs f s0) k) := by
  have hrest : PSs X rest (fun D σ H => ∃ s, tBk E γ (δ s) (k s) D σ H) := ⟨fun pins s σ H D I ⟨x, q⟩ => (hr x).run pins s σ H D I q⟩
  exact PSs.imp (pss_cons (PS.forW (γ := γ) (k := k) hc hp hi hwi hT hS w hl hg hb hs) hrest) fun D σ H q => ⟨D, rfl, q⟩
theorem PS.nx {st : Stmt} {t : TS} (h : PS X st t) : PS X st (fun D σ H => ∃ N : St → Hp → Prop, (∀ σ H, N σ H → D.nx σ H) ∧ t { D with nx := N } σ H) := ⟨fun pins s σ H D I ⟨N, k, q⟩ => thn (h.run pins s σ H { D with nx := N } I q) fun f s1 q1 => by
  cases f with
  | next =>
    obtain ⟨σ', H', I', q2⟩ := q1
    exact ⟨σ', H', I', k _ _ q2⟩
  | ret v => exact q1
  | brk => exact q1
  | cont => exact q1⟩
theorem Bk1.forW {wi : TI} {σt : Type} {xs : List α} {body : List Stmt} {ws : List Nat} {δ : σt → List (Sl X.K)} {τ : σt → α → List (Sl X.K)} {f : σt → α → Option (Fl σt σt ρ ε)} {s0 : σt}
    (hc : X.calm = true) (hp : PassesOwn (model X.prog X.w) X.A X.env X.xe) (hi : PI X tg iter wi) (hwi : ∀ σ H R, (∃ B F As, Ok B F Γ As σ H ∧ ∀ F1 As1 H0 J H1, Ok B F1 Γ1 As1 σ H0 → Fr F As H F1 As1 H0 → Same H0 H1 → xs.length ≤ sizeLine → Good X.K J xs (res H1 (supp B F1 H0 T)) (res H1 (supp B F1 H0 S)) → R J H1) → wi σ H R) (hT : T ≠ .pk) (hS : S ≠ .pk)
    (w : Wk Γ1 (δ s0)) (hl : Γ1.length = (δ s0).length)
    (hg : ∀ s y, Tg X tg ws S y (δ s) (τ s y)) (hb : ∀ s y, Bk X (E.lp δ) δ (τ s y) body (f s y))
    (hs : ∀ x, foldedSetIterable iter X.env x = pure x := by intro _; rfl) : PS X (.For tg iter body [] pos) (tBk E δ Γ (bindD (forD xs f s0) fun s => some (.nx s))) :=
  PS.imp (PS.nx (PS.forW (γ := δ) (k := fun s => some (.nx s)) hc hp hi hwi hT hS w hl hg hb hs)) fun D σ H q => ⟨_, fun σ H ⟨s, B, F, As, ok, o, e, qq⟩ => by cases e; exact qq F As σ H ok Fr.refl, D, rfl, q⟩
theorem Bk.for {σt : Type} {xs : List α} {body : List Stmt} {ws : List Nat} {δ : σt → List (Sl X.K)} {τ : σt → α → List (Sl X.K)} {f : σt → α → Option (Fl σt σt ρ ε)} {s0 : σt} {k : σt → Option (Fl ν β ρ ε)}
    (hc : X.calm = true) (hp : PassesOwn (model X.prog X.w) X.A X.env X.xe) (hi : EvI X Γ tg iter T S xs) (hT : T ≠ .pk) (hS : S ≠ .pk)
    (w : Wk Γ (δ s0)) (hl : Γ.length = (δ s0).length)
    (hg : ∀ s y, Tg X tg ws S y (δ s) (τ s y)) (hb : ∀ s y, Bk X (E.lp δ) δ (τ s y) body (f s y)) (hr : ∀ s, Bk X E γ (δ s) rest (k s))
    (hs : ∀ x, foldedSetIterable iter X.env x = pure x := by intro _; rfl) : Bk X E γ Γ (.For tg iter body [] pos :: rest) (bindD (forD xs f s0) k) :=
  Bk.forW hc hp hi (fun σ H R ⟨B, F, As, ok, q⟩ => ⟨B, F, As, ok, fun J H1 s1 hl g => q F As H J H1 ok Fr.refl s1 hl g⟩) hT hS w hl hg hb hr hs
theorem Bk1.for {σt : Type} {xs : List α} {body : List Stmt} {ws : List Nat} {δ : σt → List (Sl X.K)} {τ : σt → α → List (Sl X.K)} {f : σt → α → Option (Fl σt σt ρ ε)} {s0 : σt}
    (hc : X.calm = true) (hp : PassesOwn (model X.prog X.w) X.A X.env X.xe) (hi : EvI X Γ tg iter T S xs) (hT : T ≠ .pk) (hS : S ≠ .pk)
    (w : Wk Γ (δ s0)) (hl : Γ.length = (δ s0).length)
    (hg : ∀ s y, Tg X tg ws S y (δ s) (τ s y)) (hb : ∀ s y, Bk X (E.lp δ) δ (τ s y) body (f s y))
    (hs : ∀ x, foldedSetIterable iter X.env x = pure x := by intro _; rfl) : PS X (.For tg iter body [] pos) (tBk E δ Γ (bindD (forD xs f s0) fun s => some (.nx s))) :=
  Bk1.forW hc hp hi (fun σ H R ⟨B, F, As, ok, q⟩ => ⟨B, F, As, ok, fun J H1 s1 hl g => q F As H J H1 ok Fr.refl s1 hl g⟩) hT hS w hl hg hb hs
end
open PySem PySem.Spec PyProof.Rows L2
open Rp (rp)
abbrev noX {K : Frag} : Empty → Value → Option Addr → Hp → Prop := fun e => e.elim
abbrev fnE {K : Frag} {ρ ε : Type} (R : ρ → Sl K) (Pi : ρ → List (Sl K)) (xr : ε → Value → Option Addr → Hp → Prop) (E : XK) : Be K Empty ρ ε := { δ := fun s => s.elim, R := R, Pi := Pi, xr := xr, W := fun c d _ H' => E c d H' }
def spF {K : Frag} {ι ν ρ ε : Type} (Γ0 : ι → List (Sl K)) (m : ι → Option (Fl ν Empty ρ ε)) (γ : ι → ν → List (Sl K)) (R : ι → ρ → Sl K) (Pi : ι → ρ → List (Sl K)) (xr : ε → Value → Option Addr → Hp → Prop) : Sp := fun vs H Q E =>
  ∃ (i : ι) (B F : Hp) (As : List (List Addr)), Ok B F (Γ0 i) As (vs.map some) H ∧ ∃ o, m i = some o ∧ post (fnE (R i) (Pi i) xr E) (γ i) B F As H { nx := fun _ H' => Q .non H', rt := Q } o
section
variable {P : Program} {w : World} {K : Frag} {mg : Str → Option Value} {base : Heap}
theorem Mt.pad {B F H : Hp} {Γ : List (Sl K)} {As : List (List Addr)} {σ : St} (m : Mt B F H Γ As σ) : ∀ n : Nat, Mt B F H (Γ ++ List.replicate n un) (As ++ List.replicate n []) (σ ++ List.replicate n none) := by
  intro n
  induction m with
  | nil =>
    induction n with
    | zero => exact .nil
    | succ n ih => exact .cons rfl ih
  | cons h _ ih => exact .cons h ih
theorem Ok.pad {B F H : Hp} {Γ : List (Sl K)} {As : List (List Addr)} {σ : St} (ok : Ok B F Γ As σ H) (n : Nat) : Ok B F (Γ ++ List.replicate n un) (As ++ List.replicate n []) (σ ++ List.replicate n none) H := by
  have e : (As ++ List.replicate n []).flatten = As.flatten := by
    rw [List.flatten_append]
    have : (List.replicate n ([] : List Addr)).flatten = [] := by
      induction n with
      | zero => rfl
      | succ n ih => rw [List.replicate_succ, List.flatten_cons, ih]; rfl
    rw [this, List.append_nil]
  exact ⟨ok.mt.pad n, ok.sb, ok.sf, by rw [e]; exact ok.nd, by rw [e]; exact ok.ff, by rw [e]; exact ok.fb⟩
theorem flat_pad {As : List (List Addr)} {n : Nat} : (As ++ List.replicate n ([] : List Addr)).flatten = As.flatten := by
  rw [List.flatten_append]
  have : (List.replicate n ([] : List Addr)).flatten = [] := by
    induction n with
    | zero => rfl
    | succ n ih => rw [List.replicate_succ, List.flatten_cons, ih]; rfl
  rw [this, List.append_nil]
theorem post.pad {ν β ρ ε : Type} {E : Be K β ρ ε} {γ : ν → List (Sl K)} {B F H : Hp} {As : List (List Addr)} {D : Ends} {o : Fl ν β ρ ε} {n : Nat} (h : post E γ B F As H D o) : post E γ B F (As ++ List.replicate n []) H D o :=
  h.mono ⟨fun _ _ h _ => h, Same.refl _, fun b hb => by rw [flat_pad] at hb; exact .inl hb, fun b hb => .inr (.inl hb)⟩
theorem fn_ok {ι ν ρ : Type} {Γ0 : ι → List (Sl K)} {m : ι → Option (Fl ν Empty ρ Empty)} {γ : ι → ν → List (Sl K)} {R : ι → ρ → Sl K} {Pi : ι → ρ → List (Sl K)} {x qual : Str} {st : Stmt} {f : Addr} {fd : FuncData} {N ps : List Str} {k : Nat}
    (F : Fun K x qual st f fd) (S : FnScope N ps (defScope st)) (hl : ∀ i, (Γ0 i).length = ps.length)
    (hb : ∀ (cdv : Value) (A : Around) (outer : List Env) (s : Shared) (H : Hp) (E : XK) (i : ι), Room k (A.deeper (envOfC qual (defScope st) s.heap.objs.size f cdv)) →
      Bk (cxOf CX0 P w K mg base N qual (defScope st) f cdv A outer s H E).nox (fnE (R i) (Pi i) (noX (K := K)) E) (γ i) (Γ0 i ++ List.replicate (N.length - ps.length) un) (defBody st) (m i)) :
    FnOk P w K mg base CX0 (k + 1) f fd ps (spF Γ0 m γ R Pi (noX (K := K))) := by
  refine F.ok S (fun vs H Q E ⟨i, B, F, As, ok, _⟩ => by have := ok.len; rw [hl] at this; simpa using this) (fun cdv A outer s H vs Q E hr ⟨i, B, F', As, ok, o, em, q⟩ => ?_)
  have hlen : vs.length = ps.length := by have := ok.len; rw [hl] at this; simpa using this
  refine ⟨_, hb cdv A outer s H E i hr, B, F', _, ?_, o, em, q.pad (n := N.length - ps.length)⟩
  have := ok.pad (N.length - ps.length)
  unfold L2.start
  rw [hlen]
  exact this
end
section
variable {K : Frag} {X : Cx} {Γ Γ' Γ1 Γ2 : List (Sl X.K)} {e a b c : Expr} {S T : Sup} {α : Type} [Rp α] {pos p1 : Pos} {s : Sl X.K} {es : List Expr}
def NoB {K : Frag} (s : Sl K) : Prop := ∀ B B' F H A sv, s.p B F H A sv → s.p B' F H A sv
theorem NoB.fz {x : α} : NoB (M.fz x : Sl K) := fun _ _ _ _ _ _ h => h
theorem NoB.oL {x : List α} {w : V → Prop} : NoB (M.oL w x : Sl K) := fun _ _ _ _ _ _ h => h
structure ArgM (K : Frag) where
  S : Sup
  φ : Asr K
  s : Sl K
def ArgOk {K : Frag} (a : ArgM K) : Prop := ∀ (F H1 G : Hp) (v : V), a.φ.p G H1 v → Same G H1 → (a.S = .fz → Same G F) → a.s.p H1 F H1 [] (some v)
abbrev abo {K : Frag} {α : Type} [Rp α] (S : Sup) (x : α) : ArgM K := ⟨S, va x, bo x⟩
abbrev afz {K : Frag} {α : Type} [Rp α] (x : α) : ArgM K := ⟨.fz, va x, fz x⟩
theorem ArgOk.bo {S : Sup} {x : α} : ArgOk (abo (K := K) S x) := fun F H1 G v h s _ => ⟨rfl, v, G, rfl, h, fun b o hb => .inr (s _ _ hb)⟩
theorem ArgOk.fz {x : α} : ArgOk (afz (K := K) x) := fun F H1 G v h s k => ⟨rfl, v, rfl, Rp.mono (k rfl) h⟩
def ArgsOk {K : Frag} : List (ArgM K) → Prop
  | [] => True
  | a :: as => ArgOk a ∧ ArgsOk as
theorem mt_args {B F H : Hp} {H1 : Hp} : ∀ {as : List (ArgM K)} {vs : List V}, ArgsOk as → Hs H1 (supp B F H) (as.map fun a => (a.S, a.φ)) vs → Mt H1 (res H1 (supp B F H .fz)) H1 (as.map ArgM.s) (as.map fun _ => []) (vs.map some)
  | [], [], _, _ => .nil
  | a :: as, v :: vs, k, h => .cons (k.1 _ H1 _ v h.1 res_same fun e => by rw [e]; exact Same.refl _) (mt_args k.2 h.2)
  | [], _ :: _, _, h => h.elim
  | _ :: _, [], _, h => h.elim
theorem flat_nils {β : Type} : ∀ as : List β, (as.map fun _ => ([] : List Addr)).flatten = []
  | [] => rfl
  | _ :: as => by rw [List.map_cons, List.flatten_cons, flat_nils as]; rfl
theorem call_core {ι ν ρ ε : Type} {Γ0 : ι → List (Sl X.K)} {m : ι → Option (Fl ν Empty ρ ε)} {γ : ι → ν → List (Sl X.K)} {R : ι → ρ → Sl X.K} {Pi : ι → ρ → List (Sl X.K)} {xr : ε → Value → Option Addr → Hp → Prop} {as : List (ArgM X.K)} {i : ι} {r : ρ}
    (hA : ArgsOk as) (h0 : as.map ArgM.s = Γ0 i) (hm : m i = some (.rt r)) (hR : NoB (R i r)) {B F H : Hp} {As : List (List Addr)} {σ : St} (ok : Ok B F Γ As σ H) {Q : VK} {E : XK}
    (q : ∀ v H' A F', Same H H' → Same F F' → Same F' H' → (∀ b, F' b ≠ none → F b ≠ none ∨ H b = none) → (∀ a ∈ A, H a = none ∧ F' a = none) → A.Nodup → (R i r).p B F' H' A (some v) → Q v H') :
    ∀ vs H1, Same H H1 → Hs H1 (supp B F H) (as.map fun a => (a.S, a.φ)) vs → spF Γ0 m γ R Pi xr vs H1 Q E := fun vs H1 s1 hs => by
  refine ⟨i, H1, res H1 (supp B F H .fz), as.map fun _ => [], ?_, .rt r, hm, fun v F' A As' σ' H' ok' fr => ?_⟩
  · rw [← h0]
    exact ⟨mt_args hA hs, Same.refl _, res_same, by rw [flat_nils]; exact List.nodup_nil, fun a z => (by rw [flat_nils] at z; cases z), fun a z => (by rw [flat_nils] at z; cases z)⟩
  · obtain ⟨hp, nd, ha⟩ := ok'.head
    have s2 : Same H1 H' := fun b o h => fr.keep b o h (by rw [flat_nils]; simp)
    refine q v H' A F' (s1.trans s2) ?_ ok'.sf (fun b hb => ?_) (fun a z => ⟨?_, (ha a z).2.1⟩) nd (hR _ _ _ _ _ _ hp)
    · exact Same.trans (fun b o h => res_some.mpr ⟨.inr (by rw [h]; simp), s1 _ _ (ok.sf _ _ h)⟩) fr.ff
    · rcases fr.nF b hb with z | z | z
      · rw [flat_nils] at z; cases z
      · have z : supp B F H .fz b := Classical.byContradiction fun y => z (res_none y)
        exact z.elim .inr .inl
      · exact .inr (s1.free z)
    · rcases fr.nA a (by rw [List.flatten_cons]; exact List.mem_append_left _ z) with y | y
      · rw [flat_nils] at y; cases y
      · exact s1.free y
section
variable {ι ν ρ ε : Type} {Γ0 : ι → List (Sl X.K)} {m : ι → Option (Fl ν Empty ρ ε)} {γ : ι → ν → List (Sl X.K)} {R : ι → ρ → Sl X.K} {Pi : ι → ρ → List (Sl X.K)} {xr : ε → Value → Option Addr → Hp → Prop} {as : List (ArgM X.K)} {r : ρ} {k : Nat} {f : Addr} {fd : FuncData} {ps : List Str} {n : Str} {CX : CXT} {s0 : Sl X.K}
theorem EvO.call (G : FnOk X.prog X.w X.K X.mg X.base CX k f fd ps (spF Γ0 m γ R Pi xr)) (hr : Room k X.A) (i : ι) (hm : X.mg n = some (.ref f)) (hk : PySem.W.keepIn X.K (.ref f) = true) (hb : Binds X.K fd ps []) (hx : Passes CX X E0)
    (ha : EvH X Γ (e :: es) (as.map fun a => (a.S, a.φ))) (hA : ArgsOk as) (h0 : as.map ArgM.s = Γ0 i) (hd : m i = some (.rt r)) (hR : NoB s0) (hs0 : R i r = s0) (hg : Gl X n := by rfl)
    (hdb : (n == ("__debug__" : Str)) = false := by decide) (he : starEach (e :: es) X.env = (false, eval e X.env) :: starEach es X.env := by rfl) (hpl : (backTo pos (starEach es X.env)).any (·.1) = false := by rfl) : EvO X Γ (.Call (.Name n p1) (e :: es) [] pos) s0 :=
  PE.imp (pe_call G hr hg hm hk hb .nil hx ha hdb he hpl) fun σ H Q ⟨B, F, As, ok, q⟩ => ⟨B, F, As, ok, fun vs H1 s1 hs => by
    show spF Γ0 m γ R Pi xr (vs ++ []) H1 Q E0
    rw [List.append_nil]
    exact call_core hA h0 hd (hs0 ▸ hR) ok (hs0 ▸ q) vs H1 s1 hs⟩
end
theorem EvO.ev {x : α} (h : EvO X Γ e (fz x)) : Ev X Γ e .fz (va x) := PE.imp h fun σ H Q ⟨B, F, As, ok, q⟩ => ⟨B, F, As, ok, fun v H' A F' s1 sF sF' nF fr nd ⟨_, w, e, r⟩ => by
  cases e
  exact q v H' s1 (Rp.mono (fun b o h => res_some.mpr ⟨(nF b (by rw [h]; simp)).elim .inr .inl, sF' _ _ h⟩) r)⟩
theorem Mt.at_only {B F H H' : Hp} {i : Nat} {a : Addr} {s s' : Sl K} {sv : Option V} : ∀ {Γ : List (Sl K)} {As : List (List Addr)} {σ : St} {i : Nat}, Mt B F H Γ As σ → As.flatten.Nodup → As[i]? = some [a] → σ[i]? = some sv → s'.p B F H' [a] sv → (∀ b, b ≠ a → H' b = H b) → Mt B F H' (Γ.set i s') As σ
  | _, _, _, i, .nil, _, hA, _, _, _ => by simp at hA
  | _, _, _, 0, .cons (A := A) h m, nd, hA, hs, hp, k => by
    simp at hA hs
    subst hA hs
    rw [List.flatten_cons, List.nodup_append] at nd
    exact .cons hp (m.fr (Same.refl _) fun b hb => k b fun e => nd.2.2 a (by simp) b hb e.symm)
  | _, _, _, i + 1, .cons (A := A) (As := As) h m, nd, hA, hs, hp, k => by
    rw [List.flatten_cons, List.nodup_append] at nd
    have hA' : As[i]? = some [a] := by simpa using hA
    refine .cons (Sl.fr _ h (Same.refl _) fun b hb => k b fun e => nd.2.2 b hb a (List.mem_flatten.mpr ⟨[a], List.mem_of_getElem? hA', by simp⟩) e) (Mt.at_only (s := s) (i := i) m nd.2.1 hA' (by simpa using hs) hp k)
theorem Ok.mutate {B F H : Hp} {Γ : List (Sl K)} {As : List (List Addr)} {σ : St} {i : Nat} {w : V → Prop} {xs ys : List α} {a : Addr} {ws : List V} (ok : Ok B F Γ As σ H) (hi : Γ[i]? = some (oL w xs)) (hs : σ[i]? = some (some (.ref a))) (r : Rs (rp K F) ws ys) :
    Ok B F (Γ.set i (oL w ys)) As σ (upd H a (.lst ws)) ∧ Fr F As H F As (upd H a (.lst ws)) := by
  obtain ⟨A, v, hA, hs', a', vs, e, e2, ww, h, _⟩ := ok.mt.get hi
  subst e2
  rw [hs] at hs'; cases hs'
  subst e
  have ha : a ∈ As.flatten := List.mem_flatten.mpr ⟨[a], List.mem_of_getElem? hA, by simp⟩
  have k : ∀ b, b ≠ a → upd H a (.lst ws) b = H b := fun b hb => upd_ne hb
  refine ⟨⟨Mt.at_only (s := un) (i := i) ok.mt ok.nd hA hs ⟨a, ws, rfl, rfl, ww, upd_same, r⟩ k, fun b o hb => ?_, fun b o hb => ?_, ok.nd, ok.ff, ok.fb⟩, fun b o hb hn => ?_, Same.refl _, fun b hb => .inl hb, fun b hb => .inr (.inl hb)⟩
  · rw [k b fun e => by rw [e, ok.fb a ha] at hb; cases hb]; exact ok.sb _ _ hb
  · rw [k b fun e => by rw [e, ok.ff a ha] at hb; cases hb]; exact ok.sf _ _ hb
  · rw [k b fun e => hn (e ▸ ha)]; exact hb
theorem nm_own {i : Nat} {w : V → Prop} {xs : List α} {B F H : Hp} {As : List (List Addr)} {σ : St} (ok : Ok B F Γ As σ H) (hΓ : Γ[i]? = some (oL w xs)) : ∃ a vs, σ[i]? = some (some (.ref a)) ∧ H a = some (.lst vs) ∧ Rs (rp X.K F) vs xs := by
  obtain ⟨A, v, hA, hs, a, vs, e, e2, ww, h, r⟩ := ok.mt.get hΓ
  subst e2
  exact ⟨a, vs, hs, h, r⟩
theorem Ok.consNon {B F H : Hp} {As : List (List Addr)} {σ : St} (ok : Ok B F Γ As σ H) : Ok B F (fz () :: Γ) ([] :: As) (some .non :: σ) H := ok.cons ⟨rfl, _, rfl, rfl⟩ List.nodup_nil fun a z => by cases z
theorem Fr.consNil {F H F' H' : Hp} {As As' : List (List Addr)} (h : Fr F As H F' As' H') : Fr F As H F' ([] :: As') H' := h.sub fun b hb => by rw [List.flatten_cons] at hb; simpa using hb
abbrev Bm1 (X : Cx) (pos : Pos) (b : Expr) : Prop := (((((backTo pos (starEach [b] X.env)).all fun x => !x.fst) && (backToKw pos (keywordEach [] X.env)).all fun x => x.fst.isSome) && decide (([b] : List Expr).length + ([] : List Keyword).length + (if ([] : List Keyword).isEmpty = true then 0 else 1) < 30)) = true)
def tArg1 (Γ : List (Sl K)) (x : α) (Γ' : List (Sl K)) : TA := fun σ H Q => ∃ B F As, Ok B F Γ As σ H ∧ ∀ v F' As' H', Ok B F' Γ' As' σ H' → rp K F' v x → Fr F As H F' As' H' → Q [v] H'
theorem arg1 {x : α} (h : EvM X Γ a (fz x) Γ') (hs : St1 X a) : PA X [a] (tArg1 Γ x Γ') := PA.imp (pa_cons h pa_nil hs) fun σ H Q ⟨B, F, As, ok, q⟩ => ⟨B, F, As, ok, fun v A F' As' H' ok' fr => by
  obtain ⟨⟨e, w, e2, r⟩, _, _⟩ := ok'.head
  cases e2
  exact q v F' As' H' ok'.tail r (fr.sub fun b hb => by rw [List.flatten_cons]; exact List.mem_append_right _ hb)⟩
theorem nm_pe (i : Nat) {n : Str} (hN : X.N[i]? = some n) (hv : Vis X.env.scope n) (hd : (n == ("__debug__" : Str)) = false) (hcd : (n == ("__classdict__" : Str)) = false) : PE X (.Name n pos) (tVar i) := pe_var hN hv hd hcd
section
variable {n : Str} {i : Nat} {w : V → Prop} {xs ys : List α} {x : α} {apos : Pos}
def appL (xs : List α) (x : α) : Option (List α) := if xs.length < sizeLine then some (xs ++ [x]) else none
theorem EvM.append (i : Nat) (hb : EvM X Γ b (fz x) Γ') (h : appL xs x = some ys) (hΓ : Γ[i]? = some (oL w xs) := by rfl) (hΓ' : Γ'[i]? = some (oL w xs) := by rfl) (hN : X.N[i]? = some n := by rfl) (hv : Vis X.env.scope n := by first | exact Or.inl rfl | exact Or.inr (Or.inl rfl) | exact Or.inr (Or.inr rfl))
    (hd : (n == ("__debug__" : Str)) = false := by decide) (hcd : (n == ("__classdict__" : Str)) = false := by decide) (h1 : attributeBase (.Name n p1) "append" X.env (eval (.Name n p1) X.env) = eval (.Name n p1) X.env := by rfl) (h2 : Bm1 X pos b := by rfl) (h3 : (apos.endLine == pos.line) = true := by rfl) (h4 : St1 X b := by rfl) (h5 : (((backTo pos (starEach [] X.env)).any fun x => x.fst) = false) := by rfl) :
    EvM X Γ (.Call (.Attribute (.Name n p1) "append" apos) [b] [] pos) (fz ()) (Γ'.set i (oL w ys)) := by
  unfold appL at h
  split at h
  · rename_i hl
    cases h
    refine PE.imp (pe_bm PySem.F.plainAttrs_list PySem.F.slot_list_append PySem.F.type_list_append mt_append (nm_pe i hN hv hd hcd) (arg1 hb h4) h1 h2 h3 h4 h5) fun σ H Q ⟨B, F, As, ok, q⟩ => ?_
    obtain ⟨a, vs, hs, hh, _⟩ := nm_own ok hΓ
    refine ⟨_, hs, tyL (SqL.of hh), B, F, As, ok, fun v F' As' H' ok' rv fr => ?_⟩
    obtain ⟨a', vs', hs', hh', r'⟩ := nm_own ok' hΓ'
    rw [hs] at hs'; cases hs'
    refine ⟨a, vs', v, rfl, rfl, hh', by rw [r'.len]; exact hl, ?_⟩
    obtain ⟨ok2, fr2⟩ := ok'.mutate hΓ' hs (r'.append (show Rs (rp X.K F') [v] [x] from ⟨rv, trivial⟩))
    exact q _ _ _ _ _ ok2.consNon (fr.trans fr2).consNil
  · cases h
theorem EvM.clear (i : Nat) (hΓ : Γ[i]? = some (oL w xs) := by rfl) (hN : X.N[i]? = some n := by rfl) (hv : Vis X.env.scope n := by first | exact Or.inl rfl | exact Or.inr (Or.inl rfl) | exact Or.inr (Or.inr rfl))
    (hd : (n == ("__debug__" : Str)) = false := by decide) (hcd : (n == ("__classdict__" : Str)) = false := by decide) (h1 : attributeBase (.Name n p1) "clear" X.env (eval (.Name n p1) X.env) = eval (.Name n p1) X.env := by rfl) (h3 : (apos.endLine == pos.line) = true := by rfl) :
    EvM X Γ (.Call (.Attribute (.Name n p1) "clear" apos) [] [] pos) (fz ()) (Γ.set i (oL w ([] : List α))) := by
  refine PE.imp (pe_bm0 PySem.F.plainAttrs_list PySem.F.slot_list_clear PySem.F.type_list_clear mt_clear (nm_pe i hN hv hd hcd) h1 h3) fun σ H Q ⟨B, F, As, ok, q⟩ => ?_
  obtain ⟨a, vs, hs, hh, r⟩ := nm_own ok hΓ
  refine ⟨_, hs, tyL (SqL.of hh), a, vs, rfl, rfl, hh, ?_⟩
  obtain ⟨ok2, fr2⟩ := ok.mutate (ys := ([] : List α)) (ws := []) hΓ hs trivial
  exact q _ _ _ _ _ ok2.consNon fr2.consNil
end
variable {ν β ρ ε : Type} {E : Be X.K β ρ ε} {γ : ν → List (Sl X.K)} {rest : List Stmt} {m : Option (Fl ν β ρ ε)}
end
open PySem PySem.Spec PyProof.Rows L2
open Rp (rp)
theorem obind {α β : Type} {C : Prop} {o : Option α} {k : α → Option β} {y : β} (h : o.bind k = some y) (q : ∀ t, o = some t → k t = some y → C) : C := by
  obtain ⟨t, h1, h2⟩ := Option.bind_eq_some_iff.mp h
  exact q t h1 h2
def retD {ν β ρ ε : Type} : Option (Fl ν β ρ ε) → Option ρ
  | some (.rt r) => some r
  | _ => none
theorem retD_some {ν β ρ ε : Type} {m : Option (Fl ν β ρ ε)} {r : ρ} (h : retD m = some r) : m = some (.rt r) := by
  cases m with
  | none => cases h
  | some f => cases f with
    | rt x => cases h; rfl
    | nx _ => cases h
    | bk _ => cases h
    | ct _ => cases h
    | xc _ => cases h
def endD {ν β ρ ε : Type} : Option (Fl ν β ρ ε) → Option ν
  | some (.nx r) => some r
  | _ => none
mutual
theorem eqvAll_map {α : Type} [Rp α] [DecidableEq α] [De α] : ∀ xs ys : List α, PyData.eqvAll (xs.map De.enc) (ys.map De.enc) = decide (xs = ys)
  | [], [] => rfl
  | [], _ :: _ => rfl
  | _ :: _, [] => rfl
  | x :: xs, y :: ys => by
    rw [List.map_cons, List.map_cons, PyData.eqvAll, De.eqv, eqvAll_map xs ys]
    by_cases e : x = y <;> by_cases e2 : xs = ys <;> simp [e, e2]
end
instance : De Int := { enc := .int, n := 1, dp := fun h => by cases h; exact .int _, lay := fun _ => rfl, dep := fun _ => by simp [PyData.depth], eqv := fun x y => by simp [PyData.eqv, Bool.beq_eq_decide_eq] }
instance : De Bool := { enc := .bool, n := 1, dp := fun h => by cases h; exact .bl _, lay := fun _ => rfl, dep := fun _ => by simp [PyData.depth], eqv := fun x y => by simp [PyData.eqv, Bool.beq_eq_decide_eq] }
instance : De (Option Int) := { enc := fun x => match x with | none => .none | some i => .int i, n := 1, dp := fun {K H v x} h => (by
    cases x with
    | none => cases h; exact .non
    | some i => cases h.1; exact .int _), lay := fun x => (by cases x <;> rfl), dep := fun x => (by cases x <;> simp [PyData.depth]), eqv := fun x y => (by
    cases x with
    | none => cases y with
      | none => rfl
      | some j => rfl
    | some i => cases y with
      | none => rfl
      | some j => simp [PyData.eqv, Bool.beq_eq_decide_eq]) }
theorem dpAll {α : Type} [Rp α] [DecidableEq α] [De α] {K : Frag} {H : Hp} : ∀ {vs : List V} {xs : List α}, Rs (rp K H) vs xs → DpAll K H vs (xs.map De.enc)
  | [], [], _ => .nil
  | _ :: _, _ :: _, h => .cons (De.dp h.1) (dpAll h.2)
  | [], _ :: _, h => h.elim
  | _ :: _, [], h => h.elim
theorem layAll {α : Type} [Rp α] [DecidableEq α] [De α] : ∀ xs : List α, PyData.canLayAll0 (xs.map De.enc) = true
  | [] => rfl
  | x :: xs => by rw [List.map_cons, PyData.canLayAll0, De.lay, layAll xs]; rfl
theorem depAll {α : Type} [Rp α] [DecidableEq α] [De α] : ∀ xs : List α, PyData.depthAll (xs.map De.enc) ≤ De.n α
  | [] => Nat.zero_le _
  | x :: xs => by
    rw [List.map_cons, PyData.depthAll]
    have := depAll xs
    have := De.dep x
    omega
instance {α : Type} [Rp α] [DecidableEq α] [De α] : De (List α) := { enc := fun xs => .list (xs.map De.enc), n := De.n α + 1, dp := fun ⟨a, vs, e, h, r⟩ => (by rw [e]; exact .lst (SqL.of h) (dpAll r)), lay := fun xs => (by rw [PyData.canLay0]; exact layAll xs), dep := fun xs => (by rw [PyData.depth]; exact Nat.succ_le_succ (depAll xs)), eqv := fun xs ys => (by rw [PyData.eqv]; exact eqvAll_map xs ys) }
instance {α : Type} [Rp α] [DecidableEq α] [De α] : De (Tu α) := { enc := fun xs => .tuple (xs.l.map De.enc), n := De.n α + 1, dp := fun ⟨a, vs, e, h, r⟩ => (by rw [e]; exact .tup (SqT.of h) (dpAll r)), lay := fun xs => (by rw [PyData.canLay0]; exact layAll xs.l), dep := fun xs => (by rw [PyData.depth]; exact Nat.succ_le_succ (depAll xs.l)), eqv := fun xs ys => (by
    rw [PyData.eqv, eqvAll_map]
    cases xs; cases ys; simp) }
instance {α β : Type} [Rp α] [DecidableEq α] [De α] [Rp β] [DecidableEq β] [De β] : De (α × β) where
  enc := fun x => .tuple [De.enc x.1, De.enc x.2]
  n := max (De.n α) (De.n β) + 1
  dp := fun ⟨a, v, w, e, h, r1, r2⟩ => (by rw [e]; exact .tup (SqT.of h) (.cons (De.dp r1) (.cons (De.dp r2) .nil)))
  lay := fun x => (by simp [PyData.canLay0, PyData.canLayAll0, De.lay])
  dep := fun x => (by
    have := De.dep x.1
    have := De.dep x.2
    simp only [PyData.depth, PyData.depthAll]
    omega)
  eqv := fun x y => (by
    obtain ⟨x1, x2⟩ := x
    obtain ⟨y1, y2⟩ := y
    simp only [PyData.eqv, PyData.eqvAll, De.eqv]
    by_cases e : x1 = y1 <;> by_cases e2 : x2 = y2 <;> simp [e, e2])
instance {α β γ : Type} [Rp α] [DecidableEq α] [De α] [Rp β] [DecidableEq β] [De β] [Rp γ] [DecidableEq γ] [De γ] : De (T3 α β γ) where
  enc := fun x => .tuple [De.enc x.a, De.enc x.b, De.enc x.c]
  n := max (De.n α) (max (De.n β) (De.n γ)) + 1
  dp := fun ⟨a, v, w, u, e, h, r1, r2, r3⟩ => (by rw [e]; exact .tup (SqT.of h) (.cons (De.dp r1) (.cons (De.dp r2) (.cons (De.dp r3) .nil))))
  lay := fun x => (by simp [PyData.canLay0, PyData.canLayAll0, De.lay])
  dep := fun x => (by
    have := De.dep x.a
    have := De.dep x.b
    have := De.dep x.c
    simp only [PyData.depth, PyData.depthAll]
    omega)
  eqv := fun x y => (by
    obtain ⟨x1, x2, x3⟩ := x
    obtain ⟨y1, y2, y3⟩ := y
    simp only [PyData.eqv, PyData.eqvAll, De.eqv]
    by_cases e : x1 = y1 <;> by_cases e2 : x2 = y2 <;> by_cases e3 : x3 = y3 <;> simp [e, e2, e3])
instance : Eqs (Option Int) := ⟨fun {K H H' v w x y} p1 p2 => by
  cases x with
  | none =>
    cases p1
    cases y with
    | none => cases p2; exact ⟨rfl, rfl⟩
    | some j => cases p2.1; exact ⟨rfl, by simp⟩
  | some i =>
    cases p1.1
    cases y with
    | none => cases p2; exact ⟨rfl, by simp⟩
    | some j => cases p2.1; exact ⟨rfl, by simp⟩⟩
section
variable {K : Frag} {X : Cx} {Γ Γ' Γ1 Γ2 : List (Sl X.K)} {e a b c : Expr} {S T : Sup} {α : Type} [Rp α] {pos p1 : Pos} {s : Sl X.K} {es : List Expr}
theorem Ev.nmS {γ : Type} [Sc γ] (i : Nat) {x : γ} {n : Str} (hΓ : Γ[i]? = some (fz x) := by rfl) (hN : X.N[i]? = some n := by rfl) (hv : Vis X.env.scope n := by first | exact Or.inl rfl | exact Or.inr (Or.inl rfl) | exact Or.inr (Or.inr rfl))
    (hd : (n == ("__debug__" : Str)) = false := by decide) (hcd : (n == ("__classdict__" : Str)) = false := by decide) : Ev X Γ (.Name n pos) S (va x) := (Ev.nm i hΓ hN hv hd hcd).sc
theorem EvT.cast {p q : Bool} (h : EvT X Γ e p) (k : p = q) : EvT X Γ e q := k ▸ h
theorem EvW.cast {p q : Bool} (h : EvW X Γ e p) (k : p = q) : EvW X Γ e q := k ▸ h
variable {p q t : Bool} {rest : List Expr}
theorem EvW.andP {ob : Option Bool} (ha : EvT X Γ a p) (hb : ∀ q, p = true → ob = some q → EvW X Γ (.BoolOp .And (b :: rest) pos) q) (h : (if p = true then ob else some false) = some t) : EvW X Γ (.BoolOp .And (a :: b :: rest) pos) t := by
  cases p with
  | true =>
    rw [if_pos rfl] at h
    have := EvW.and ha fun _ => hb t rfl h
    rwa [Bool.true_and] at this
  | false =>
    rw [if_neg (by simp)] at h
    cases h
    have := EvW.and (pos := pos) (b := b) (rest := rest) (q := false) ha fun z => by cases z
    rwa [Bool.false_and] at this
theorem EvW.orP {ob : Option Bool} (ha : EvT X Γ a p) (hb : ∀ q, p = false → ob = some q → EvW X Γ (.BoolOp .Or (b :: rest) pos) q) (h : (if p = true then some true else ob) = some t) : EvW X Γ (.BoolOp .Or (a :: b :: rest) pos) t := by
  cases p with
  | false =>
    rw [if_neg (by simp)] at h
    have := EvW.or ha fun _ => hb t rfl h
    rwa [Bool.false_or] at this
  | true =>
    rw [if_pos rfl] at h
    cases h
    have := EvW.or (pos := pos) (b := b) (rest := rest) (q := false) ha fun z => by cases z
    rwa [Bool.true_or] at this
theorem Ev.andP {ob : Option Bool} (ha : Ev X Γ a S (va p)) (hb : ∀ q, p = true → ob = some q → Ev X Γ (.BoolOp .And (b :: rest) pos) T (va q)) (h : (if p = true then ob else some false) = some t) : Ev X Γ (.BoolOp .And (a :: b :: rest) pos) T (va t) := by
  cases p with
  | true =>
    rw [if_pos rfl] at h
    have := Ev.and ha fun _ => hb t rfl h
    rwa [Bool.true_and] at this
  | false =>
    rw [if_neg (by simp)] at h
    cases h
    have := Ev.and (pos := pos) (b := b) (rest := rest) (q := false) (T := T) ha fun z => by cases z
    rwa [Bool.false_and] at this
theorem Ev.orP {ob : Option Bool} (ha : Ev X Γ a S (va p)) (hb : ∀ q, p = false → ob = some q → Ev X Γ (.BoolOp .Or (b :: rest) pos) T (va q)) (h : (if p = true then some true else ob) = some t) : Ev X Γ (.BoolOp .Or (a :: b :: rest) pos) T (va t) := by
  cases p with
  | false =>
    rw [if_neg (by simp)] at h
    have := Ev.or ha fun _ => hb t rfl h
    rwa [Bool.false_or] at this
  | true =>
    rw [if_pos rfl] at h
    cases h
    have := Ev.or (pos := pos) (b := b) (rest := rest) (q := false) (T := T) ha fun z => by cases z
    rwa [Bool.true_or] at this
theorem EvN.vlo {xs : List α} (h : EvN X Γ e S xs) : Ev X Γ e S (lo xs) := h.ev.vlo
variable {ν β ρ ε : Type} {E : Be X.K β ρ ε} {γ : ν → List (Sl X.K)} {ss : List Stmt} {rest' : List Stmt} {m : Option (Fl ν β ρ ε)}
class IsT (α : Type) [Rp α] where
  ty : Value
  typ : ∀ {K : Frag} {H : Hp} {v : V} {x : α}, rp K H v x → TyX K H v ty
instance : IsT Int := ⟨.type "int", fun h => by cases h; exact .base (.int _)⟩
instance : IsT Bool := ⟨.type "bool", fun h => by cases h; exact .base (.bl _)⟩
instance : IsT Str := ⟨.type "str", fun h => by cases h; exact .base (.str _)⟩
instance : IsT (List α) := ⟨.type "list", fun ⟨_, _, e, h, _⟩ => by rw [e]; exact .base (.lst h)⟩
instance : IsT (Tu α) := ⟨.type "tuple", fun ⟨_, _, e, h, _⟩ => by rw [e]; exact .base (.tup h)⟩
instance {β : Type} [Rp β] : IsT (α × β) := ⟨.type "tuple", fun ⟨_, _, _, e, h, _⟩ => by rw [e]; exact .base (.tup h)⟩
instance {β γ : Type} [Rp β] [Rp γ] : IsT (T3 α β γ) := ⟨.type "tuple", fun ⟨_, _, _, _, e, h, _⟩ => by rw [e]; exact .base (.tup h)⟩
end
open PySem PySem.Spec PyProof.Rows L2
open Rp (rp)
section
variable {K : Frag} {α : Type} [Rp α]
def RL (K : Frag) (F H : Hp) : List Addr → List (List α) → Prop
  | [], [] => True
  | p :: ps, xs :: r => (∃ vs, H p = some (.lst vs) ∧ Rs (rp K F) vs xs) ∧ RL K F H ps r
  | _, _ => False
theorem RL.mono {F F' H H' : Hp} (s : Same F F') : ∀ {ps : List Addr} {xss : List (List α)}, RL K F H ps xss → (∀ a ∈ ps, H' a = H a) → RL K F' H' ps xss
  | [], [], _, _ => trivial
  | p :: ps, xs :: r, ⟨⟨vs, h, q⟩, t⟩, k => ⟨⟨vs, (k p (by simp)).trans h, q.mono fun _ _ => Rp.mono s⟩, RL.mono s t fun a ha => k a (List.mem_cons_of_mem _ ha)⟩
  | [], _ :: _, h, _ => h.elim
  | _ :: _, [], h, _ => h.elim
theorem RL.len {F H : Hp} : ∀ {ps : List Addr} {xss : List (List α)}, RL K F H ps xss → ps.length = xss.length
  | [], [], _ => rfl
  | _ :: _, _ :: _, h => congrArg (· + 1) (RL.len h.2)
  | [], _ :: _, h => h.elim
  | _ :: _, [], h => h.elim
theorem RL.lv {F H : Hp} : ∀ {ps : List Addr} {xss : List (List α)}, RL K F H ps xss → ∀ a ∈ ps, H a ≠ none
  | [], [], _, _, ha => by simp at ha
  | p :: ps, xs :: r, ⟨⟨vs, h, q⟩, t⟩, a, ha => by
    rcases List.mem_cons.mp ha with rfl | ha
    · rw [h]; simp
    · exact RL.lv t a ha
  | [], _ :: _, h, _, _ => h.elim
  | _ :: _, [], h, _, _ => h.elim
theorem RL.get {F H : Hp} : ∀ {ps : List Addr} {xss : List (List α)} {j : Nat} {xs : List α}, RL K F H ps xss → xss[j]? = some xs → ∃ p vs, ps[j]? = some p ∧ H p = some (.lst vs) ∧ Rs (rp K F) vs xs
  | p :: ps, xs :: r, 0, ys, ⟨⟨vs, h, q⟩, t⟩, e => by simp at e; subst e; exact ⟨p, vs, rfl, h, q⟩
  | p :: ps, xs :: r, j + 1, ys, ⟨_, t⟩, e => by simpa using RL.get (j := j) t (by simpa using e)
  | [], [], _, _, _, e => by simp at e
  | [], _ :: _, _, _, h, _ => h.elim
  | _ :: _, [], _, _, h, _ => h.elim
theorem RL.set {F H H' : Hp} {p : Addr} {ws : List V} {ys : List α} (hw : H' p = some (.lst ws)) (rw0 : Rs (rp K F) ws ys) (k : ∀ b, b ≠ p → H b ≠ none → H' b = H b) : ∀ {ps : List Addr} {xss : List (List α)} {j : Nat}, RL K F H ps xss → ps.Nodup → ps[j]? = some p → RL K F H' ps (xss.set j ys)
  | q :: ps, xs :: r, 0, ⟨_, t⟩, nd, e => by
    simp at e; subst e
    rw [List.nodup_cons] at nd
    exact ⟨⟨ws, hw, rw0⟩, t.mono (Same.refl _) fun a ha => k a (fun e => nd.1 (e ▸ ha)) (t.lv a ha)⟩
  | q :: ps, xs :: r, j + 1, ⟨⟨vs, h, z⟩, t⟩, nd, e => by
    rw [List.nodup_cons] at nd
    have e' : ps[j]? = some p := by simpa using e
    refine ⟨⟨vs, ?_, z⟩, RL.set hw rw0 k t nd.2 e'⟩
    rw [k q (fun e2 => nd.1 (by rw [e2]; exact List.mem_of_getElem? e')) (by rw [h]; simp)]
    exact h
  | [], [], _, _, _, e => by simp at e
  | [], _ :: _, _, h, _, _ => h.elim
  | _ :: _, [], _, h, _, _ => h.elim
theorem RL.app {F H : Hp} {p : Addr} {ws : List V} {ys : List α} (hw : H p = some (.lst ws)) (rw0 : Rs (rp K F) ws ys) : ∀ {ps : List Addr} {xss : List (List α)}, RL K F H ps xss → RL K F H (ps ++ [p]) (xss ++ [ys])
  | [], [], _ => ⟨⟨ws, hw, rw0⟩, trivial⟩
  | _ :: _, _ :: _, h => ⟨h.1, RL.app hw rw0 h.2⟩
  | [], _ :: _, h => h.elim
  | _ :: _, [], h => h.elim
theorem RL.rs {F H : Hp} (s : Same F H) : ∀ {ps : List Addr} {xss : List (List α)}, RL K F H ps xss → Rs (rp K H) (ps.map V.ref) xss
  | [], [], _ => trivial
  | p :: ps, xs :: r, ⟨⟨vs, h, q⟩, t⟩ => ⟨⟨p, vs, rfl, h, q.mono fun _ _ => Rp.mono s⟩, RL.rs s t⟩
  | [], _ :: _, h => h.elim
  | _ :: _, [], h => h.elim
def oLL (w : V → List Addr → Prop) (xss : List (List α)) : Sl K := ⟨fun _ F H A sv => ∃ a ps, A = a :: ps ∧ sv = some (.ref a) ∧ w (.ref a) ps ∧ H a = some (.lst (ps.map .ref)) ∧ RL K F H ps xss,
  fun ⟨a, ps, e, e2, ww, h, r⟩ s k => ⟨a, ps, e, e2, ww, (k a (by rw [e]; simp)).trans h, r.mono s fun b hb => k b (by rw [e]; exact List.mem_cons_of_mem _ hb)⟩,
  fun ⟨a, ps, e, e2, ww, h, r⟩ b hb => by
    rw [e] at hb
    rcases List.mem_cons.mp hb with rfl | hb
    · rw [h]; simp
    · exact r.lv b hb⟩
abbrev any2 : V → List Addr → Prop := fun _ _ => True
theorem NoB.oLL {x : List (List α)} {w : V → List Addr → Prop} : NoB (M.oLL w x : Sl K) := fun _ _ _ _ _ _ h => h
end
section
variable {K : Frag}
theorem nodup_mem {A : List Addr} : ∀ {As : List (List Addr)}, As.flatten.Nodup → A ∈ As → A.Nodup
  | [], _, h => by cases h
  | B :: As, h, m => by
    rw [List.flatten_cons, List.nodup_append] at h
    rcases List.mem_cons.mp m with rfl | m
    · exact h.1
    · exact nodup_mem h.2.1 m
theorem nodup_flat_set2 {A A' : List Addr} (hA : A'.Nodup) : ∀ {As : List (List Addr)} {i : Nat}, As.flatten.Nodup → As[i]? = some A → (∀ a ∈ A', a ∈ A ∨ a ∉ As.flatten) → (As.set i A').flatten.Nodup
  | [], _, _, h, _ => by simp at h
  | B :: As, 0, h, e, d => by
    simp at e; subst e
    rw [List.flatten_cons, List.nodup_append] at h
    show (A' :: As).flatten.Nodup
    rw [List.flatten_cons, List.nodup_append]
    refine ⟨hA, h.2.1, fun x hx y hy e => ?_⟩
    subst e
    rcases d x hx with z | z
    · exact h.2.2 x z x hy rfl
    · exact z (by rw [List.flatten_cons]; exact List.mem_append_right _ hy)
  | B :: As, i + 1, h, e, d => by
    rw [List.flatten_cons, List.nodup_append] at h
    have e' : As[i]? = some A := by simpa using e
    have inA : ∀ a ∈ A, a ∈ As.flatten := fun a ha => List.mem_flatten.mpr ⟨A, List.mem_of_getElem? e', ha⟩
    show (B :: As.set i A').flatten.Nodup
    rw [List.flatten_cons, List.nodup_append]
    refine ⟨h.1, nodup_flat_set2 hA h.2.1 e' fun a ha => (d a ha).imp id fun z y => z (by rw [List.flatten_cons]; exact List.mem_append_right _ y), fun x hx y hy e => ?_⟩
    subst e
    rcases mem_flat_set hy with hy | hy
    · rcases d x hy with z | z
      · exact h.2.2 x hx x (inA x z) rfl
      · exact z (by rw [List.flatten_cons]; exact List.mem_append_left _ hx)
    · exact h.2.2 x hx x hy rfl
end
section
variable {K : Frag} {X : Cx} {Γ Γ' Γ1 Γ2 : List (Sl X.K)} {e a b c : Expr} {S T : Sup} {α : Type} [Rp α] {pos p1 p2 : Pos} {s : Sl X.K} {es : List Expr}
variable {n : Str} {i : Nat} {w : V → List Addr → Prop} {xss : List (List α)} {xs ys : List α} {x : α} {k : Int} {apos : Pos}
theorem nm_ll {B F H : Hp} {As : List (List Addr)} {σ : St} (ok : Ok B F Γ As σ H) (hΓ : Γ[i]? = some (oLL w xss)) : ∃ a ps, σ[i]? = some (some (.ref a)) ∧ As[i]? = some (a :: ps) ∧ w (.ref a) ps ∧ H a = some (.lst (ps.map .ref)) ∧ RL X.K F H ps xss := by
  obtain ⟨A, v, hA, hs, a, ps, e, e2, ww, h, r⟩ := ok.mt.get hΓ
  subst e e2
  exact ⟨a, ps, hs, hA, ww, h, r⟩
theorem Ev.row (i : Nat) {z : List α} (hk : Ev X Γ b T (va k)) (h : atI xss k = some z) (hΓ : Γ[i]? = some (oLL w xss) := by rfl) (hN : X.N[i]? = some n := by rfl) (hv : Vis X.env.scope n := by first | exact Or.inl rfl | exact Or.inr (Or.inl rfl) | exact Or.inr (Or.inr rfl))
    (hd : (n == ("__debug__" : Str)) = false := by decide) (hcd : (n == ("__classdict__" : Str)) = false := by decide) (hp : PlainIx b := by exact fun _ _ => rfl) : Ev X Γ (.Subscript (.Name n p1) b pos) .fz (lo z) := by
  refine PE.imp (pe_ix ix_list (nm_pe i hN hv hd hcd) hk hp) fun σ H Q ⟨B, F, As, ok, q⟩ => ?_
  obtain ⟨a, ps, hs, hA, ww, hh, r⟩ := nm_ll ok hΓ
  refine ⟨_, hs, B, F, As, ok, fun v H1 s1 pv => ?_⟩
  unfold atI at h
  obtain ⟨j, hj, hz⟩ := Option.bind_eq_some_iff.mp h
  obtain ⟨p, vs, hp', hv', rv⟩ := r.get hz
  refine ⟨a, _, k, .ref p, rfl, pv, SqL.of (s1 _ _ hh), ?_, q _ H1 s1 ⟨p, vs, rfl, s1 _ _ hv', rv.mono fun _ _ => Rp.mono fun b o h => res_some.mpr ⟨.inr (by rw [h]; simp), s1 _ _ (ok.sf _ _ h)⟩⟩⟩
  unfold atI
  rw [List.length_map, r.len, hj]
  show (ps.map V.ref)[j]? = _
  rw [List.getElem?_map, hp']; rfl
end
open PySem PySem.Spec PyProof.Rows L2
open Rp (rp)
section
variable {K : Frag} {X : Cx} {Γ Γ' Γ1 Γ2 : List (Sl X.K)} {e a b c : Expr} {S T : Sup} {α : Type} [Rp α] {pos p1 p2 : Pos} {s : Sl X.K} {es : List Expr}
variable {n : Str} {i : Nat} {w : V → List Addr → Prop} {xss : List (List α)} {xs ys : List α} {x : α} {k : Int} {apos : Pos}
theorem Rs.sc {γ : Type} [Sc γ] {F G : Hp} {vs : List V} {xs : List γ} (h : Rs (rp K F) vs xs) : Rs (rp K G) vs xs := h.mono fun _ _ => Sc.sc
theorem RL.sc {γ : Type} [Sc γ] {F G H : Hp} : ∀ {ps : List Addr} {xss : List (List γ)}, RL K F H ps xss → RL K G H ps xss
  | [], [], _ => trivial
  | _ :: _, _ :: _, ⟨⟨vs, h, q⟩, t⟩ => ⟨⟨vs, h, Rs.sc q⟩, RL.sc t⟩
  | [], _ :: _, h => h.elim
  | _ :: _, [], h => h.elim
theorem RL.grow {γ : Type} [Rp γ] {F H H' : Hp} (s : Same H H') {ps : List Addr} {xss : List (List γ)} (h : RL K F H ps xss) : RL K F H' ps xss := h.mono (Same.refl _) fun a ha => by
  cases e : H a with
  | none => exact absurd e (h.lv a ha)
  | some o => exact s _ _ e
variable {γ : Type} [Sc γ]
def tEvAN (Γ : List (Sl K)) (xss : List (List γ)) : TA := fun σ H Q => ∃ B F As, Ok B F Γ As σ H ∧ ∀ ps H', Same H H' → ps.Nodup → (∀ p ∈ ps, H p = none) → RL K (fun _ => none) H' ps xss → Q (ps.map V.ref) H'
def EvAN (X : Cx) (Γ : List (Sl X.K)) (es : List Expr) (xss : List (List γ)) : Prop := PA X es (tEvAN Γ xss)
theorem EvAN.nil : EvAN X Γ [] ([] : List (List γ)) := PA.imp pa_nil fun σ H Q ⟨B, F, As, ok, q⟩ => q [] H (Same.refl _) List.nodup_nil (fun p hp => by cases hp) trivial
theorem EvAN.cons {x : List γ} {xss : List (List γ)} (h : EvN X Γ e S x) (h2 : EvAN X Γ es xss) (hs : starEach (e :: es) X.env = (false, eval e X.env) :: starEach es X.env := by rfl) : EvAN X Γ (e :: es) (x :: xss) :=
  PA.imp (pa_cons h h2 hs) fun σ H Q ⟨B, F, As, ok, q⟩ => ⟨B, F, As, ok, fun p vs H1 s1 hn r => ⟨B, F, As, ok.grow (s1.trans (same_upd hn)), fun ps H2 s2 nd fr rl =>
    q (p :: ps) H2 ((s1.trans (same_upd hn)).trans s2) (List.nodup_cons.mpr ⟨fun z => (by
      have := fr p z
      rw [upd_same] at this; cases this), nd⟩) (fun c hc => by
      rcases List.mem_cons.mp hc with rfl | hc
      · exact s1.free hn
      · exact (s1.trans (same_upd hn)).free (fr c hc)) ⟨⟨vs, s2 _ _ upd_same, Rs.sc r⟩, rl⟩⟩⟩
def LcO (X : Cx) (Γ : List (Sl X.K)) (e : Expr) (s : Sl X.K) : Prop := ∃ (elt tg iter : Expr) (ifs : List Expr) (scope : Scope) (own : List (Str × Nat)) (pos : Pos) (wi : TI) (g : TG) (tt : TT) (te : TE),
  e = .ListComp elt [⟨tg, iter, ifs, 0⟩] scope pos ∧ X.calm = true ∧ X.N.Nodup ∧ PI X tg iter wi ∧ BlkOk X.N X.env.scope scope own ∧
  (∀ (s : Shared) (H : Hp) (C : Addr) (cl : List (Str × Addr)) (fp : List Addr), PG (X.blk s H scope (compEnvC scope cl C X.env) fp) tg g) ∧
  (∀ (s : Shared) (H : Hp) (C : Addr) (cl : List (Str × Addr)) (fp : List Addr), PTs (X.blk s H scope (compEnvC scope cl C X.env) fp) ifs tt) ∧
  (∀ (s : Shared) (H : Hp) (C : Addr) (cl : List (Str × Addr)) (fp : List Addr), PE (X.blk s H scope (compEnvC scope cl C X.env) fp) elt te) ∧ (∀ x, foldedSetIterable iter X.env x = pure x) ∧
  ∀ σ H Q, tEvO Γ s σ H Q → tLc wi g tt te (own.map (·.2)) σ H Q
variable {ν β ρ ε : Type} {E : Be X.K β ρ ε} {γ' : ν → List (Sl X.K)} {rest : List Stmt} {m : Option (Fl ν β ρ ε)}
theorem LcLL.mk {α : Type} [Rp α] {xs : List α} {f : α → List γ} {tg elt iter : Expr} {scope : Scope} {own : List (Str × Nat)} {ws : List Nat} {τ : α → List (Sl X.K)} {S' : Sup}
    (hc : X.calm = true) (hN : X.N.Nodup) (hi : EvI X Γ tg iter .pk S xs) (okB : BlkOk X.N X.env.scope scope own)
    (hg : ∀ (s : Shared) (H : Hp) (C : Addr) (cl : List (Str × Addr)) (fp : List Addr) (y : α), Tg (X.blk s H scope (compEnvC scope cl C X.env) fp) tg ws S y (wipeG Γ (own.map (·.2))) (τ y))
    (he : ∀ (s : Shared) (H : Hp) (C : Addr) (cl : List (Str × Addr)) (fp : List Addr) (y : α), EvN (X.blk s H scope (compEnvC scope cl C X.env) fp) (τ y) elt S' (f y))
    (hS : S ≠ .pk := by decide) (hws : ∀ i ∈ ws, i ∈ own.map (·.2) := by decide) (hs : ∀ x, foldedSetIterable iter X.env x = pure x := by intro _; rfl) :
    LcO X Γ (.ListComp elt [⟨tg, iter, [], 0⟩] scope pos) (oLL any2 (xs.map f)) := by
  refine ⟨elt, tg, iter, [], scope, own, pos, tEvI Γ .pk S xs, fun v σ H Q => ∃ y, tG ws S y (wipeG Γ (own.map (·.2))) (τ y) v σ H Q, tYes,
    fun σ H Q => ∃ y, tEvN (τ y) S' (f y) σ H Q, rfl, hc, hN, hi, okB, (fun s H C cl fp => ⟨fun pins s' σ H' v u Q I r ⟨y, q⟩ => (hg s H C cl fp y).run pins s' σ H' v u Q I r q⟩),
    (fun s H C cl fp => pts_nil), (fun s H C cl fp => ⟨fun pins s' σ H' Q I ⟨y, q⟩ => (he s H C cl fp y).run pins s' σ H' Q I q⟩), hs, fun σ H Q ⟨B, F, As, ok, q⟩ => ?_⟩
  refine ⟨B, F, As, ok, fun J H1 s1 hlen good D hD => ?_⟩
  have hHD : H D = none := s1.free hD
  refine ⟨fun i m Hc => m = xs.length - i ∧ i ≤ xs.length ∧ ∃ Hm ps, Hc = upd Hm D (.lst (ps.map V.ref)) ∧ Hm D = none ∧ Same H1 Hm ∧ ps.length ≤ i ∧ ps.Nodup ∧ (∀ p ∈ ps, H1 p = none) ∧ RL X.K (fun _ => none) Hm ps ((xs.take i).map f),
    ⟨xs.length, by simp, Nat.zero_le _, H1, [], rfl, hD, Same.refl _, Nat.le_refl _, List.nodup_nil, (fun p hp => by cases hp), trivial⟩, ?_⟩
  rintro i m Hc ⟨rfl, hi', Hm, ps, rfl, hmD, sm, hvl, nd, fr, rl⟩
  have sH1 : Same H1 (upd Hm D (.lst (ps.map V.ref))) := sm.trans (same_upd hmD)
  have hFD : F D = none := ok.sf.free hHD
  have hBD : B D = none := ok.sb.free hHD
  obtain ⟨g1, g2⟩ := good i (upd Hm D (.lst (ps.map V.ref))) (res_same.trans sH1) (res_same.trans sH1)
  by_cases hlt : i < xs.length
  · refine .inr ⟨(g1 xs[i] (List.getElem?_eq_getElem hlt)).1, fun H' => ∃ m', m' < xs.length - i ∧ m' = xs.length - (i + 1) ∧ i + 1 ≤ xs.length ∧ ∃ Hm ps, H' = upd Hm D (.lst (ps.map V.ref)) ∧ Hm D = none ∧ Same H1 Hm ∧ ps.length ≤ i + 1 ∧ ps.Nodup ∧ (∀ p ∈ ps, H1 p = none) ∧ RL X.K (fun _ => none) Hm ps ((xs.take (i + 1)).map f),
      fun H' ⟨m', h1, h2⟩ => ⟨m', h1, h2⟩, fun x H' hy => ?_⟩
    obtain ⟨sy, ry⟩ := (g1 xs[i] (List.getElem?_eq_getElem hlt)).2 x H' hy
    have sHH' : Same H H' := (s1.trans sH1).trans sy
    have hD' : H' D = some (.lst (ps.map V.ref)) := sy _ _ upd_same
    let F' : Hp := res H' fun b => b ≠ D ∧ supp B F H .fz b
    have hF : Same F F' := fun b o h => res_some.mpr ⟨⟨fun z => (by rw [z, hFD] at h; cases h), .inr (by rw [h]; simp)⟩, sHH' _ _ (ok.sf _ _ h)⟩
    have ok' : Ok B F' (wipeG Γ (own.map (·.2))) (wipeA As (own.map (·.2))) (wipe σ (own.map (·.2))) H' := by
      refine Ok.wipe ⟨ok.mt.fr hF (ok.eqs sHH'), ok.sb.trans sHH', res_same, ok.nd, fun a ha => res_none fun z => ?_, ok.fb⟩ _
      exact z.2.elim (fun z => ok.mt.lv a ha z) fun z => z (ok.ff a ha)
    have hyS : rpS X.K S B F' x xs[i] := by
      refine ⟨hS, _, ry, fun b o h => ?_⟩
      obtain ⟨h1, h2⟩ := res_some.mp h
      have bD : H b = none → b ≠ D → F' b = some o := fun h hb => res_some.mpr ⟨⟨hb, .inl h⟩, h2⟩
      have hb : b ≠ D := by
        rintro rfl
        rcases h1 with h1 | h1
        · rw [upd_same] at h1; cases h1
        · exact h1 (by unfold res; rw [hD]; split <;> rfl)
      rcases h1 with h1 | h1
      · have z : F' b = some o := bD ((s1.trans sH1).free h1) hb
        cases S with
        | fz => exact z
        | bo => exact .inl z
        | pk => exact absurd rfl hS
      · have z : supp B F H S b := Classical.byContradiction fun z => h1 (res_none z)
        cases S with
        | fz => exact res_some.mpr ⟨⟨hb, z⟩, h2⟩
        | bo =>
          rcases z with z | z | z
          · exact .inl (bD z hb)
          · exact .inl (res_some.mpr ⟨⟨hb, .inr z⟩, h2⟩)
          · refine .inr ?_
            cases e : B b with
            | none => exact absurd e z
            | some o' =>
              have := (ok.sb.trans sHH') _ _ e
              rw [h2] at this; exact this.symm
        | pk => exact absurd rfl hS
    refine ⟨xs[i], B, F', _, ok', hyS, fun As2 σ2 ok2 _ ag => ⟨ag.wipe hws |>.trans (by
      apply List.ext_getElem?
      intro j
      rw [wipe_at, wipe_at, wipe_length]
      split
      · rfl
      · rfl), ?_⟩⟩
    refine ⟨xs[i], B, F', As2, ok2, fun p vs H4 s4 hn r => ?_⟩
    have s5 := same_upd (o := .lst vs) hn
    have h1 : (upd H4 p (.lst vs)) D = some (.lst (ps.map V.ref)) := s5 _ _ (s4 _ _ hD')
    have sc : Same Hm (cutD (upd H4 p (.lst vs)) D) := fun b o h => res_some.mpr ⟨fun z => (by rw [z, hmD] at h; cases h), s5 _ _ (s4 _ _ (sy _ _ (same_upd hmD _ _ h)))⟩
    have npD : p ≠ D := fun z => by rw [z, s4 _ _ hD'] at hn; cases hn
    have hp1 : H1 p = none := (sH1.trans (sy.trans s4)).free hn
    refine ⟨ps.map V.ref, h1, by rw [List.length_map]; omega, _, by omega, rfl, hlt, cutD (upd H4 p (.lst vs)) D, ps ++ [p], by rw [cutD_upd, List.map_append]; rfl, cutD_none, sm.trans sc, by simp; omega, ?_, ?_, ?_⟩
    · rw [List.nodup_append]
      refine ⟨nd, by simp, fun y hy z hz e => ?_⟩
      have ez : z = p := by simpa using hz
      subst e ez
      have q1 := rl.lv y hy
      cases e : Hm y with
      | none => exact q1 e
      | some o =>
        have := s4 _ _ (sy _ _ (same_upd hmD _ _ e))
        rw [hn] at this; cases this
    · intro c hc
      rcases List.mem_append.mp hc with hc | hc
      · exact fr c hc
      · rw [show c = p by simpa using hc]; exact hp1
    · rw [List.take_succ_eq_append_getElem hlt, List.map_append]
      exact (rl.grow sc).app (ys := f xs[i]) (show cutD (upd H4 p (.lst vs)) D p = some (.lst vs) from res_some.mpr ⟨npD, upd_same⟩) (Rs.sc r)
  · have hl : i = xs.length := by omega
    subst hl
    rw [List.take_length] at rl
    refine .inl ⟨g2 (Nat.le_refl _), ?_⟩
    have hDp : D ∉ ps := fun z => rl.lv D z hmD
    have sF : Same F (upd Hm D (.lst (ps.map V.ref))) := (ok.sf.trans s1).trans sH1
    refine q (.ref D) _ (D :: ps) F (s1.trans sH1) (Same.refl _) sF (fun b hb => .inl hb) (fun c hc => ?_) (List.nodup_cons.mpr ⟨hDp, nd⟩) ⟨D, ps, rfl, rfl, trivial, upd_same, (rl.grow (same_upd hmD)).sc⟩
    rcases List.mem_cons.mp hc with rfl | hc
    · exact ⟨hHD, hFD⟩
    · exact ⟨s1.free (fr c hc), ok.sf.free (s1.free (fr c hc))⟩
end
open PySem PySem.Spec PyProof.Rows L2
open Rp (rp)
section
variable {K : Frag} {X : Cx} {Γ Γ' Γ1 Γ2 : List (Sl X.K)} {e a b c : Expr} {S T : Sup} {α : Type} [Rp α] {pos p1 p2 : Pos} {s s' : Sl X.K} {es : List Expr} {n : Str} {i j : Nat}
variable {ν β ρ ε : Type} {E : Be X.K β ρ ε} {γ : ν → List (Sl X.K)} {ss rest : List Stmt} {m : Option (Fl ν β ρ ε)}
structure OwnP (s s' : Sl K) (sl sl' : V → Sl K) : Prop where
  out : ∀ B B' F F' H A sv, s.p B F H A sv → Same F F' → ∃ v, sv = some v ∧ (sl v).p B' F' H A (some v)
  back : ∀ B B' F F' H H' A A' v sv, s.p B F H A (some v) → (sl' v).p B' F' H' A' sv → s'.p B F' H' A' (some v)
theorem OwnP.l {w : V → Prop} {xs ys : List α} : OwnP (oL w xs : Sl K) (oL w ys) (fun v => oL (fun u => u = v) xs) (fun v => oL (fun u => u = v) ys) :=
  ⟨fun _ _ _ _ _ _ _ ⟨a, vs, e, e2, ww, h, r⟩ s => ⟨_, e2, a, vs, e, rfl, rfl, h, r.mono fun _ _ => Rp.mono s⟩,
   fun _ _ _ _ _ _ _ _ v sv ⟨a, vs, e, e2, ww, h, r⟩ ⟨a', vs', e', e2', ew, h', r'⟩ => ⟨a', vs', e', by rw [ew], by rw [ew]; cases e2; exact ww, h', r'⟩⟩
def Hio (σ : St) (H : Hp) (D : Sup → Addr → Prop) : List (Nat ⊕ ArgM K) → List V → Prop
  | [], [] => True
  | .inl i :: r, v :: vs => σ[i]? = some (some v) ∧ Hio σ H D r vs
  | .inr a :: r, v :: vs => a.φ.p (res H (D a.S)) H v ∧ Hio σ H D r vs
  | _, _ => False
def tIO (Γ : List (Sl K)) (ios : List (Nat ⊕ ArgM K)) : TA := fun σ H Q => ∃ B F As, Ok B F Γ As σ H ∧ ∀ vs H', Same H H' → Hio σ H' (supp B F H) ios vs → Q vs H'
def EvIO (X : Cx) (Γ : List (Sl X.K)) (es : List Expr) (ios : List (Nat ⊕ ArgM X.K)) : Prop := PA X es (tIO Γ ios)
theorem EvIO.nil : EvIO X Γ [] [] := PA.imp pa_nil fun σ H Q ⟨B, F, As, ok, q⟩ => q [] H (Same.refl _) trivial
theorem Hio.mono {σ : St} {H H' : Hp} {D D' : Sup → Addr → Prop} (s : Same H H') (k : ∀ S b, D S b → D' S b) : ∀ {ios : List (Nat ⊕ ArgM K)} {vs : List V}, Hio σ H D ios vs → Hio σ H' D' ios vs
  | [], [], _ => trivial
  | .inl i :: r, v :: vs, h => ⟨h.1, Hio.mono s k h.2⟩
  | .inr a :: r, v :: vs, h => ⟨a.φ.mono h.1 (res_mono s (k a.S)) s, Hio.mono s k h.2⟩
  | [], _ :: _, h => h.elim
  | _ :: _, [], h => by rename_i x _; cases x <;> exact h.elim
theorem EvIO.val {am : ArgM X.K} {ios : List (Nat ⊕ ArgM X.K)} (h : Ev X Γ e am.S am.φ) (h2 : EvIO X Γ es ios) (hs : starEach (e :: es) X.env = (false, eval e X.env) :: starEach es X.env := by rfl) : EvIO X Γ (e :: es) (.inr am :: ios) :=
  PA.imp (pa_cons h h2 hs) fun σ H Q ⟨B, F, As, ok, q⟩ => ⟨B, F, As, ok, fun v H1 s1 pv => ⟨B, F, As, ok.grow s1, fun vs H2 s2 hv => q (v :: vs) H2 (s1.trans s2)
    ⟨am.φ.mono pv (res_mono s2 fun _ z => z) s2, hv.mono (Same.refl _) fun S b z => supp_grow s1 z⟩⟩⟩
theorem EvIO.own (i : Nat) {ios : List (Nat ⊕ ArgM X.K)} (h2 : EvIO X Γ es ios) (hsl : ∃ s, Γ[i]? = some s ∧ ∀ B F H A sv, s.p B F H A sv → sv ≠ none) (hN : X.N[i]? = some n := by rfl) (hv : Vis X.env.scope n := by first | exact Or.inl rfl | exact Or.inr (Or.inl rfl) | exact Or.inr (Or.inr rfl))
    (hd : (n == ("__debug__" : Str)) = false := by decide) (hcd : (n == ("__classdict__" : Str)) = false := by decide) (hs : starEach (.Name n pos :: es) X.env = (false, eval (.Name n pos) X.env) :: starEach es X.env := by rfl) : EvIO X Γ (.Name n pos :: es) (.inl i :: ios) :=
  PA.imp (pa_cons (nm_pe i hN hv hd hcd) h2 hs) fun σ H Q ⟨B, F, As, ok, q⟩ => by
    obtain ⟨s, hΓ, hk⟩ := hsl
    obtain ⟨A, sv, hA, hs, hp⟩ := ok.mt.get hΓ
    cases sv with
    | none => exact absurd rfl (hk _ _ _ _ _ hp)
    | some v => exact ⟨v, hs, B, F, As, ok, fun vs H' s1 hv => q (v :: vs) H' s1 ⟨hs, hv⟩⟩
def ArgOkB {K : Frag} (a : ArgM K) : Prop := ∀ (F B H1 G : Hp) (v : V), a.φ.p G H1 v → (a.S = .fz → Same G F) → (∀ b o, G b = some o → F b = some o ∨ B b = some o) → a.s.p B F H1 [] (some v)
theorem ArgOkB.bo {S : Sup} {x : α} : ArgOkB (abo (K := K) S x) := fun F B H1 G v h _ k => ⟨rfl, v, G, rfl, h, k⟩
theorem ArgOkB.fz {x : α} : ArgOkB (afz (K := K) x) := fun F B H1 G v h k _ => ⟨rfl, v, rfl, Rp.mono (k rfl) h⟩
theorem mem_set_nil {As : List (List Addr)} {i : Nat} {A : List Addr} {b : Addr} (h : b ∈ (As.set i A).flatten) : b ∈ A ∨ b ∈ (As.set i []).flatten := by
  induction As generalizing i with
  | nil => simp at h
  | cons A0 As ih =>
    cases i with
    | zero =>
      have h : b ∈ (A :: As).flatten := h
      rw [List.flatten_cons] at h
      exact (List.mem_append.mp h).imp id fun z => (show b ∈ ([] :: As).flatten by rw [List.flatten_cons]; exact List.mem_append_right _ z)
    | succ i =>
      have h : b ∈ (A0 :: As.set i A).flatten := h
      rw [List.flatten_cons] at h
      rcases List.mem_append.mp h with z | z
      · exact .inr (show b ∈ (A0 :: As.set i []).flatten by rw [List.flatten_cons]; exact List.mem_append_left _ z)
      · exact (ih z).imp id fun z => (show b ∈ (A0 :: As.set i []).flatten by rw [List.flatten_cons]; exact List.mem_append_right _ z)
theorem Mt.at_gen2 {B F F' H H' : Hp} {A A' : List Addr} {s' : Sl K} {sv : Option V} (sF : Same F F') : ∀ {Γ : List (Sl K)} {As : List (List Addr)} {σ : St} {i : Nat}, Mt B F H Γ As σ → As[i]? = some A → σ[i]? = some sv → s'.p B F' H' A' sv → (∀ b ∈ (As.set i []).flatten, H' b = H b) → Mt B F' H' (Γ.set i s') (As.set i A') σ
  | _, _, _, i, .nil, hA, _, _, _ => by simp at hA
  | _, _, _, 0, .cons (A := A0) (As := As) h m, hA, hs, hp, k => by
    simp at hA hs
    subst hA hs
    exact .cons hp (m.fr sF fun b hb => k b (show b ∈ ([] :: As).flatten by rw [List.flatten_cons]; exact List.mem_append_right _ hb))
  | _, _, _, i + 1, .cons (A := A0) (As := As) h m, hA, hs, hp, k =>
    .cons (Sl.fr _ h sF fun b hb => k b (show b ∈ (A0 :: As.set i []).flatten by rw [List.flatten_cons]; exact List.mem_append_left _ hb)) (Mt.at_gen2 sF (i := i) m (by simpa using hA) (by simpa using hs) hp fun b hb => k b (show b ∈ (A0 :: As.set i []).flatten by rw [List.flatten_cons]; exact List.mem_append_right _ hb))
theorem Ok.mutG2 {B F F' H H' : Hp} {Γ : List (Sl K)} {As : List (List Addr)} {σ : St} {i : Nat} {A A' : List Addr} {s' : Sl K} {sv : Option V} (ok : Ok B F Γ As σ H) (hA : As[i]? = some A) (hs : σ[i]? = some sv) (hp : s'.p B F' H' A' sv) (hn : A'.Nodup) (hf : ∀ b ∈ A', b ∈ A ∨ H b = none)
    (k : ∀ b ∈ (As.set i []).flatten, H' b = H b) (sB : Same B H') (sF : Same F F') (sF' : Same F' H') (dj : ∀ b ∈ A', F' b = none) (dj2 : ∀ b ∈ (As.set i []).flatten, F' b = none) : Ok B F' (Γ.set i s') (As.set i A') σ H' := by
  have inA : ∀ a ∈ A, a ∈ As.flatten := fun a ha => List.mem_flatten.mpr ⟨A, List.mem_of_getElem? hA, ha⟩
  refine ⟨ok.mt.at_gen2 sF hA hs hp k, sB, sF', nodup_flat_set2 hn ok.nd hA fun a ha => (hf a ha).imp id fun z y => ok.mt.lv a y z, fun a ha => (mem_set_nil ha).elim (dj a) (dj2 a), fun a ha => ?_⟩
  rcases mem_set_nil ha with z | z
  · exact (hf a z).elim (fun y => ok.fb a (inA a y)) fun y => ok.sb.free y
  · exact ok.fb a (flat_nil_set z)
end
open PySem PySem.Spec PyProof.Rows L2
open Rp (rp)
theorem rng_lit {n : Int} (h : 0 ≤ n ∧ n ≤ 1000) : rng 0 n = some (rangeI 0 n) := by
  unfold rng
  rw [if_pos]
  have : sizeLine = 16777216 := sizeLine_eq
  refine ⟨by decide, by decide, ?_, ?_, ?_⟩ <;> omega
theorem lcD_map {α β : Type} {f : α → β} : ∀ {xs : List α}, lcD xs (fun _ => some true) (fun x => some (f x)) = some (xs.map f) := fun {xs} => by
  have := lcD_total (fun _ => true) f xs
  rwa [List.filter_eq_self.mpr (by simp)] at this
section
variable {K : Frag} {X : Cx} {Γ Γ' Γ1 Γ2 : List (Sl X.K)} {e a b c : Expr} {S T : Sup} {α : Type} [Rp α] {pos p1 : Pos} {s : Sl X.K} {es : List Expr}
theorem Ev.lasc {γ : Type} [Sc γ] {xs : List γ} (h : Ev X Γ e S (la xs)) : Ev X Γ e T (la xs) := PE.imp h fun σ H Q ⟨B, F, As, ok, q⟩ => ⟨B, F, As, ok, fun v H' s ⟨a, vs, e, h, r⟩ => q v H' s ⟨a, vs, e, h, Rs.sc r⟩⟩
theorem EvM.vfz {x y : α} (h : EvM X Γ e (fz x) Γ') (k : x = y) : EvM X Γ e (fz y) Γ' := k ▸ h
theorem LcOk.val {x y : List α} (h : LcOk X Γ e T x) (k : x = y) : LcOk X Γ e T y := k ▸ h
theorem EvTs.cast {ifs : List Expr} {p q : Bool} (h : EvTs X Γ ifs p) (k : p = q) : EvTs X Γ ifs q := k ▸ h
variable {ν β ρ ε : Type} {E : Be X.K β ρ ε} {γ : ν → List (Sl X.K)} {rest : List Stmt} {m : Option (Fl ν β ρ ε)}
theorem Bk.asgTv {tg : Expr} {x : α} {ws : List Nat} (he : Ev X Γ e S (va x)) (hg : Tg X tg ws S x Γ Γ') (hr : Bk X E γ Γ' rest m) (hS : S ≠ .pk := by decide) (hs : swapsWithSole [tg] e pos.line X.env = pure false := by rfl) (hw : swappedStores [tg] e X.env = pure none := by rfl)
    (h1 : (assignEach [tg] X.env).map (·.2) = [assign tg X.env] := by rfl) : Bk X E γ Γ (.Assign [tg] e pos :: rest) m :=
  PSs.imp (pss_cons (ps_asg he hg hs hw h1) hr) fun D σ H ⟨B, F, As, ok, o, em, q⟩ => ⟨B, F, As, ok, fun v H' s1 pv => ⟨B, _, As, ok.freeze s1, ⟨hS, _, pv, fun b o hb => by
      obtain ⟨h1, h2⟩ := res_some.mp hb
      cases S with
      | fz => exact hb
      | bo =>
        rcases h1 with h1 | h1 | h1
        · exact .inl (res_some.mpr ⟨.inl h1, h2⟩)
        · exact .inl (res_some.mpr ⟨.inr h1, h2⟩)
        · refine .inr ?_
          cases e : B b with
          | none => exact absurd e h1
          | some o' =>
            have := (ok.sb.trans s1) _ _ e
            rw [h2] at this; exact this.symm
      | pk => exact absurd rfl hS⟩, fun As' σ' ok' sub _ => ⟨B, _, As', ok', o, em, q.mono (Fr.sub (Fr.pure s1 (fun b o h => res_some.mpr ⟨.inr (by rw [h]; simp), s1 _ _ (ok.sf _ _ h)⟩) fun b hb => by
      have z : supp B F H .fz b := Classical.byContradiction fun z => hb (res_none z)
      exact z.elim .inr .inl) sub)⟩⟩⟩
end
open PySem PySem.Spec PyProof.Rows L2
open Rp (rp)
section
variable {K : Frag} {X : Cx} {Γ Γ' Γ1 Γ2 : List (Sl X.K)} {e a b c : Expr} {S T : Sup} {α : Type} [Rp α] {pos p1 : Pos} {s : Sl X.K} {es : List Expr}
theorem Mt.back {B F H : Hp} {s : Sl K} {A : List Addr} {v : Option V} (h : s.p B F H A v) : ∀ {Γ : List (Sl K)} {As : List (List Addr)} {σ : St} (j : Nat), Mt B F H Γ As σ → σ[j]? = some v → Mt B F H (Γ.set j s) (As.set j A) σ
  | _, _, _, _, .nil, _ => by simp; exact .nil
  | _, _, _, 0, .cons h0 m, e => by simp at e; subst e; exact .cons h m
  | _, _, _, j + 1, .cons h0 m, e => .cons h0 (m.back h j (by simpa using e))
theorem Ok.back {B F H : Hp} {Γ : List (Sl K)} {As : List (List Addr)} {σ : St} {s : Sl K} {A : List Addr} {v : Option V} (ok : Ok B F Γ As σ H) (j : Nat) (h : s.p B F H A v) (hv : σ[j]? = some v) (hn : A.Nodup) (ha : ∀ a ∈ A, a ∉ As.flatten ∧ F a = none ∧ B a = none) : Ok B F (Γ.set j s) (As.set j A) σ H :=
  ⟨ok.mt.back h j hv, ok.sb, ok.sf, nodup_flat_set hn j ok.nd fun a z => (ha a z).1, fun a h => (mem_flat_set h).elim (fun z => (ha a z).2.1) (ok.ff a), fun a h => (mem_flat_set h).elim (fun z => (ha a z).2.2) (ok.fb a)⟩
end
open PySem PySem.Spec PyProof.Rows L2
open Rp (rp)
structure Ft (α : Type) where
  l : List α
  deriving DecidableEq
def ftAt (H : Hp) (a : Addr) (vs : List V) : Prop := ∃ o, H a = some (.frz o (.tup vs)) ∧ o.cls = .type "tuple" ∧ o.dict = none
theorem ftAt.mono {H H' : Hp} {a : Addr} {vs : List V} (s : Same H H') (h : ftAt H a vs) : ftAt H' a vs := let ⟨o, h1, h2⟩ := h; ⟨o, s _ _ h1, h2⟩
instance {α : Type} [Rp α] : Rp (Ft α) := {
  rp := fun K H v xs => ∃ a vs, v = .ref a ∧ ftAt H a vs ∧ Rs (rp K H) vs xs.l
  mono := fun s ⟨a, vs, e, h, r⟩ => ⟨a, vs, e, h.mono s, r.mono fun _ _ => Rp.mono s⟩ }
instance {α : Type} [Rp α] : Nn (Ft α) := ⟨fun ⟨_, _, e, _⟩ => by rw [e]; simp⟩
structure Web where
  around : Tu (Ft Int)
def webC (K : Frag) : Addr := match PySem.W.nsIn K mainGlobals "Web" with
  | some (some (.ref C)) => C
  | _ => 0
instance : Rp Web where
  rp := fun K H v x => ∃ a dx u, v = .ref a ∧ H a = some (.ins (webC K) dx [("around", u)]) ∧ rp K H u x.around
  mono := fun s ⟨a, dx, u, e, h, r⟩ => ⟨a, dx, u, e, s _ _ h, Rp.mono s r⟩
instance : Nn Web := ⟨fun ⟨_, _, _, e, _⟩ => by rw [e]; simp⟩
inductive Look | alien | self | twice | lone | apart
def Look.nm : Look → Str
  | .alien => "first_alien" | .self => "first_self" | .twice => "first_twice" | .lone => "first_lone" | .apart => "first_apart"
def fnC (K : Frag) (n : Str) : V := match PySem.W.nsIn K mainGlobals n with
  | some (some (.ref C)) => .ref C
  | _ => .non
instance : Sc Look := { rp := fun K _ v x => v = fnC K x.nm, mono := fun _ h => h, sc := fun h => h }
section
variable {K : Frag}
def oI (w : V → Prop) : Sl K := ⟨fun B F H A sv => ∃ a dx, A = [a] ∧ sv = some (.ref a) ∧ w (.ref a) ∧ H a = some (.ins (webC K) dx []),
  fun ⟨a, dx, e, e2, ww, h⟩ s k => ⟨a, dx, e, e2, ww, (k a (by rw [e]; simp)).trans h⟩,
  fun ⟨a, dx, e, e2, ww, h⟩ b hb => by rw [e] at hb; rw [show b = a by simpa using hb, h]; simp⟩
def oW (w : V → Prop) (x : Web) : Sl K := ⟨fun B F H A sv => ∃ a dx u, A = [a] ∧ sv = some (.ref a) ∧ w (.ref a) ∧ H a = some (.ins (webC K) dx [("around", u)]) ∧ rp K F u x.around,
  fun ⟨a, dx, u, e, e2, ww, h, r⟩ s k => ⟨a, dx, u, e, e2, ww, (k a (by rw [e]; simp)).trans h, Rp.mono s r⟩,
  fun ⟨a, dx, u, e, e2, ww, h, r⟩ b hb => by rw [e] at hb; rw [show b = a by simpa using hb, h]; simp⟩
theorem Ok.put {B F H : Hp} {Γ : List (Sl K)} {As : List (List Addr)} {σ : St} {i : Nat} {a : Addr} {o : HO} {s' : Sl K} {sv : Option V} (ok : Ok B F Γ As σ H) (hA : As[i]? = some [a]) (hs : σ[i]? = some sv) (hp : s'.p B F (upd H a o) [a] sv) :
    Ok B F (Γ.set i s') As σ (upd H a o) ∧ Fr F As H F As (upd H a o) := by
  have ha : a ∈ As.flatten := List.mem_flatten.mpr ⟨[a], List.mem_of_getElem? hA, by simp⟩
  have k : ∀ b, b ≠ a → upd H a o b = H b := fun b hb => upd_ne hb
  refine ⟨⟨Mt.at_only (s := un) (i := i) ok.mt ok.nd hA hs hp k, fun b o hb => ?_, fun b o hb => ?_, ok.nd, ok.ff, ok.fb⟩, fun b o hb hn => ?_, Same.refl _, fun b hb => .inl hb, fun b hb => .inr (.inl hb)⟩
  · rw [k b fun e => by rw [e, ok.fb a ha] at hb; cases hb]; exact ok.sb _ _ hb
  · rw [k b fun e => by rw [e, ok.ff a ha] at hb; cases hb]; exact ok.sf _ _ hb
  · rw [k b fun e => hn (e ▸ ha)]; exact hb
end
section
variable {K : Frag} {X : Cx} {Γ Γ' Γ1 Γ2 : List (Sl X.K)} {e a b c : Expr} {S T : Sup} {α : Type} [Rp α] {pos p1 p2 : Pos} {s : Sl X.K} {es : List Expr}
variable {ν β ρ ε : Type} {E : Be X.K β ρ ε} {γ : ν → List (Sl X.K)} {rest : List Stmt} {m : Option (Fl ν β ρ ε)}
structure WebOk (K : Frag) (C : Addr) : Prop where
  at_ : webC K = C
  cl : Cls K C
  na : NoAttr K C "around"
theorem look_around {u : V} : (([("around", u)] : List (Str × V)).lookup ("around" : Str)) = some u := by
  have := lookup_putF "around" "around" u []
  rw [if_pos rfl] at this
  exact this
theorem Ev.around {C : Addr} {x : Web} (h : Ev X Γ e S (va x)) (W : WebOk X.K C) (hb : attributeBase e "around" X.env (eval e X.env) = eval e X.env := by rfl) : Ev X Γ (.Attribute e "around" pos) S (va x.around) :=
  PE.imp (pe_fld h hb) fun σ H Q ⟨B, F, As, ok, q⟩ => ⟨B, F, As, ok, fun v H1 s1 ⟨a, dx, u, ev, hh, r⟩ =>
    ⟨a, C, dx, _, u, ev, by rw [← W.at_]; exact (res_some.mp hh).2, W.cl, W.na, look_around, q u H1 s1 r⟩⟩
section
variable {ι ν1 ρ1 ε1 : Type} {ω : Type} [Rp ω] {Γ0 : ι → List (Sl X.K)} {m1 : ι → Option (Fl ν1 Empty ρ1 ε1)} {γ1 : ι → ν1 → List (Sl X.K)} {R : ι → ρ1 → Sl X.K} {Pi : ι → ρ1 → List (Sl X.K)} {xr : ε1 → Value → Option Addr → Hp → Prop} {k : Nat} {f C : Addr} {fd : FuncData} {ps : List Str} {n : Str} {CX : CXT} {as : List (ArgM X.K)}
theorem EvO.make {y : ω} {web : Web} {x1 : ν1} (W : WebOk X.K C) (MK : Mk X.K C f) (G : FnOk X.prog X.w X.K X.mg X.base CX k f fd ps (spF Γ0 m1 γ1 R Pi xr)) (hr : Room (k + 1) X.A) (ix : V → ι) (hm : X.mg n = some (.ref C)) (hb : Binds X.K fd ps []) (hx : Passes CX X E0)
    (ha : Ev X Γ e S (va y)) (h0 : ∀ v, [oI (fun z => z = v), bo y] = Γ0 (ix v)) (hd : ∀ v, m1 (ix v) = some (.nx x1)) (hγ : ∀ v, (γ1 (ix v) x1)[0]? = some (oW (fun z => z = v) web)) (hg : Gl X n := by rfl)
    (hdb : (n == ("__debug__" : Str)) = false := by decide) (h1 : St1 X e := by rfl) (hpl : (backTo pos (starEach [] X.env)).any (·.1) = false := by rfl) : EvO X Γ (.Call (.Name n p1) [e] [] pos) (fz web) :=
  PE.imp (pe_make MK G hr hg hm hb .nil hx (EvH.cons ha EvH.nil h1) hdb h1 hpl) fun σ H Q ⟨B, F, As, ok, q⟩ => ⟨B, F, As, ok, fun vs H1 s1 hs x dx nx ndx ne => by
    obtain ⟨v, e, pv⟩ := Hs.one hs
    subst e
    have H2d : ∀ b o, H1 b = some o → upd (upd H1 dx (.own x)) x (.ins C dx []) b = some o := fun b o h => by
      rw [upd_ne (ne_of_none h nx), upd_ne (ne_of_none h ndx)]; exact h
    have free : ∀ b, upd (upd H1 dx (.own x)) x (.ins C dx []) b = none → H1 b = none := fun b h => by
      cases e : H1 b with
      | none => rfl
      | some o => rw [H2d b o e] at h; cases h
    show spF Γ0 m1 γ1 R Pi xr (.ref x :: ([v] ++ [])) _ _ E0
    refine ⟨ix (.ref x), H1, res H1 (supp B F H .fz), [[x], []], ?_, .nx x1, hd _, fun F' As' σ' H' ok' fr => ⟨rfl, ?_⟩⟩
    · rw [← h0]
      refine ⟨.cons ⟨x, dx, rfl, rfl, rfl, by rw [upd_same, W.at_]⟩ (.cons ⟨rfl, v, _, rfl, pv, fun b o hb => .inr (res_same _ _ hb)⟩ .nil), H2d, fun b o h => H2d b o (res_same _ _ h), by simp, fun a h => ?_, fun a h => ?_⟩
      · have e : a = x := by simpa using h
        rw [e]
        cases e2 : res H1 (supp B F H .fz) x with
        | none => rfl
        | some o => rw [(res_some.mp e2).2] at nx; cases nx
      · have e : a = x := by simpa using h
        rw [e]; exact nx
    · obtain ⟨A, sv, hA, hs', a, dx', u, eA, ev, ww, hh, r⟩ := ok'.mt.get (hγ (.ref x))
      obtain rfl : a = x := by cases ww; rfl
      have sH : Same H1 H' := fun b o h => fr.keep b o (H2d b o h) (by simpa using ne_of_none h nx)
      refine q (.ref a) H' [] (res H' fun b => F' b ≠ none ∨ b = a) (s1.trans sH) (fun b o h => ?_) res_same (fun b hb => ?_) (fun b hb => by cases hb) List.nodup_nil ⟨rfl, _, rfl, a, dx', u, rfl, res_some.mpr ⟨.inr rfl, hh⟩, Rp.mono (fun b o h => res_some.mpr ⟨.inl (by rw [h]; simp), ok'.sf _ _ h⟩) r⟩
      · have z : F' b = some o := fr.ff _ _ (res_some.mpr ⟨.inr (by rw [h]; simp), s1 _ _ (ok.sf _ _ h)⟩)
        exact res_some.mpr ⟨.inl (by rw [z]; simp), ok'.sf _ _ z⟩
      · have z : F' b ≠ none ∨ b = a := Classical.byContradiction fun z => hb (res_none z)
        rcases z with z | z
        · rcases fr.nF b z with y | y | y
          · have e : b = a := by simpa using y
            rw [e]; exact .inr (s1.free nx)
          · have y : supp B F H .fz b := Classical.byContradiction fun z => y (res_none z)
            exact y.elim .inr .inl
          · exact .inr (s1.free (free b y))
        · rw [z]; exact .inr (s1.free nx)⟩
end
end
open PySem PySem.Spec PyProof.Rows L2
open Rp (rp)
section
variable {K : Frag} {X : Cx} {Γ Γ' Γ1 Γ2 : List (Sl X.K)} {e a b c tg : Expr} {S T : Sup} {α : Type} [Rp α] {pos p1 p2 : Pos} {s : Sl X.K} {es : List Expr}
theorem fr_tail {F F' H H' : Hp} {As As' : List (List Addr)} {A : List Addr} (h : Fr F As H F' (A :: As') H') : Fr F As H F' As' H' := h.sub fun b hb => by rw [List.flatten_cons]; exact List.mem_append_right _ hb
theorem EvM.op2i {op : Operator} {r : R2} {x y z : Int} (hr : OpR X (binaryOp op) r) (ha : EvM X Γ a (fz x) Γ1) (hb : EvM X Γ1 b (fz y) Γ2) (h : ∀ H Q, Q (.int z) H → r (.int x) (.int y) H Q) : EvM X Γ (.BinOp a op b pos) (fz z) Γ2 :=
  PE.imp (pe_op hr ha hb) fun σ H Q ⟨B, F, As, ok, q⟩ => ⟨B, F, As, ok, fun v A F1 As1 H1 ok1 fr1 => by
    obtain ⟨⟨_, w, e, r1⟩, _, _⟩ := ok1.head
    cases e
    refine ⟨B, F1, As1, ok1.tail, fun u A2 F2 As2 H2 ok2 fr2 => ?_⟩
    obtain ⟨⟨_, w2, e, r2⟩, _, _⟩ := ok2.head
    cases e
    rw [show v = _ from r1, show u = _ from r2]
    exact h H2 Q (q _ [] F2 As2 H2 (ok2.tail.cons ⟨rfl, _, rfl, rfl⟩ List.nodup_nil fun a z => by cases z) ((fr_tail fr1).trans (fr_tail fr2)).consNil)⟩
theorem EvM.add {x y : Int} (ha : EvM X Γ a (fz x) Γ1) (hb : EvM X Γ1 b (fz y) Γ2) : EvM X Γ (.BinOp a .Add b pos) (fz (x + y)) Γ2 := EvM.op2i op_add ha hb fun H Q q => ⟨x, y, rfl, rfl, q⟩
theorem EvM.sub {x y : Int} (ha : EvM X Γ a (fz x) Γ1) (hb : EvM X Γ1 b (fz y) Γ2) : EvM X Γ (.BinOp a .Sub b pos) (fz (x - y)) Γ2 := EvM.op2i op_sub ha hb fun H Q q => ⟨x, y, rfl, rfl, q⟩
variable {ν ν' β ρ ε : Type} {E : Be X.K β ρ ε} {γ : ν → List (Sl X.K)} {γ' : ν' → List (Sl X.K)} {ss rest bA bB : List Stmt} {m mA mB : Option (Fl ν β ρ ε)} {p : Bool}
end
end M
set_option Elab.async false
set_option linter.all false
set_option maxRecDepth 100000
set_option maxHeartbeats 8000000
namespace PySem
open Sem (wp)
open AutoSeq1 (wpAny_loadPart')
open PyProof.Rows
section
variable {prog : Program} {w : World} {A : Around} {E : Value → Shared → Prop} {s : Shared}
theorem m_collect {Q : List Value → Shared → Prop} (it : Addr) {o : Obj} {its : Array Value} {n : Nat} (ho : s.heap.get? it = some o) (hc : o.cls = .type "tuple") (hd : o.data = .seq its n)
    (hQ : ∀ h', s.heap.objs.size ≤ h'.objs.size → (∀ b ob, s.heap.get? b = some ob → h'.get? b = some ob) → Q its.toList { s with heap := h' }) (hz : its.size ≤ sizeLine) : wpAny (model prog w) A (collect (.ref it)) Q E s := by
  unfold collect
  refine wpAny_bind (wpAny_runValue (codeAny_builtin F.entry_proto_collect ?_))
  rw [Around.under_plainId F.plain_proto_collect _]
  show wpAny _ A.in1 (newList [] >>= fun q => again (.builtin "list.__iadd__" ⟨[q, .ref it], []⟩)) _ _ s
  refine wpAny_bind (wpAny_newObj_type ?_)
  refine wpAny_pure ⟨plainId_quiet F.plain_list_iadd _, codeAny_builtin F.entry_list_iadd ?_⟩
  rw [Around.under_plainId F.plain_list_iadd _]
  show wpAny _ A.in1 (Builtin.List.listExtendWith (.ref s.heap.objs.size) (.ref it) (.ref s.heap.objs.size)) _ _ _
  have g0 : (s.heap.push { cls := .type "list", data := .seq ([] : List Value).toArray }).get? s.heap.objs.size = some { cls := .type "list", data := .seq #[] 0 } := Heap.get?_push_size _ rfl
  have g1 := Heap.get?_update_self (Obj.mapSeq (· ++ its)) g0 rfl
  have fin : wpAny (model prog w) A (match Value.ref s.heap.objs.size with
      | Value.ref a => do
        match (← load a).data with
          | Data.seq ys _ => pure ys.toList
          | _ => unsupported "internal:collect"
      | _ => unsupported "internal:collect") Q E { s with heap := (s.heap.push { cls := .type "list", data := .seq ([] : List Value).toArray }).update s.heap.objs.size (Obj.mapSeq (· ++ its)) } := by
    show wpAny _ A (load s.heap.objs.size >>= _) _ _ _
    refine wpAny_bind (wpAny_load g1 ?_)
    refine wpAny_pure ?_
    have e : ((#[] : Array Value) ++ its).toList = its.toList := by simp
    show Q ((#[] : Array Value) ++ its).toList _
    rw [e]
    refine hQ _ (by rw [Heap.size_update, Heap.size_push]; omega) (fun b ob hb => ?_)
    exact (Heap.get?_update_other _ _ (Nat.ne_of_gt (Heap.lt_size hb))).trans (Heap.get?_push_of_some _ hb)
  refine wpAny_mono (wpAny_extend_seq (hsz := hz) (A := A) (R := fun r t => r = .ok (.ret (.ref s.heap.objs.size)) ∧ t = { s with heap := (s.heap.push { cls := .type "list", data := .seq ([] : List Value).toArray }).update s.heap.objs.size (Obj.mapSeq (· ++ its)) })
    (s := { s with heap := s.heap.push { cls := .type "list", data := .seq ([] : List Value).toArray } }) _ it _ 0 (.inr rfl) g0 (Heap.get?_push_of_some _ ho) hc hd ⟨rfl, rfl⟩) (fun fi t hx => ?_) (fun e t hx => ?_)
  · cases fi with
    | done f =>
      obtain ⟨e, rfl⟩ := hx
      cases e
      exact fin
    | again c =>
      refine ⟨hx.1, codeAny_mono hx.2 fun r u hr => ?_⟩
      obtain ⟨rfl, rfl⟩ := hr
      exact fin
  · exact absurd hx.1 (by simp)
open SrtO in
theorem m_sorted {l : Addr} {vs : List Value} {ltv : Value → Value → Bool} {Q : Value → Shared → Prop} (O : Swo ltv) (hl : s.heap.IsTuple l vs.toArray) (hz : vs.length ≤ sizeLine)
    (hS : 2 ≤ vs.length → ∀ (h1 : Heap) (a : Addr), h1.get? a = some (seqObj "list" vs.toArray 0) → SortableO prog w A.in1.in1 { s with heap := h1 } a vs ltv)
    (hh : ∀ (out : List Value) (h1 h2 : Heap), Srtd ltv out → Stb ltv out vs → s.heap.objs.size ≤ h1.objs.size → (∀ b ob, s.heap.get? b = some ob → h1.get? b = some ob) → h2 = sortedHeap (h1.push (seqObj "list" vs.toArray 0)) h1.objs.size vs out.toArray → Q (.ref h1.objs.size) { s with heap := h2 }) :
    wpAny (model prog w) A (call (.builtin "sorted") [.ref l]) Q E s := by
  refine Calls.call_function_entry kind_sorted plain_sorted entry_sorted (args_sorted1 _) ?_
  unfold Builtin.«sorted»
  obtain ⟨ob, ho, hc, n, hd⟩ := id hl
  refine wpAny_bind (m := checkCount "sorted" 1 1 _) (wpAny_pure ?_)
  refine wpAny_bind (m_collect l ho hc hd (fun h1 hle hk => ?_) (by simpa using hz))
  refine wpAny_bind (wpAny_newList ?_ hz)
  have hoL : (h1.push (seqObj "list" vs.toArray 0)).get? h1.objs.size = some (seqObj "list" vs.toArray 0) := Heap.get?_push_size _ rfl
  show wpAny _ _ _ _ _ { s with heap := h1.push (seqObj "list" vs.toArray 0) }
  refine wpAny_bind (wpAny_holding (wpAny_call_entry slot_list_sort ⟨_, hoL, rfl⟩ entry_list_sort (list_sort_ord O hoL hz (fun h2 => hS h2 _ _ hoL) fun out hs hb => ⟨_, rfl, ?_⟩) (args_list_sort _)))
  exact wpAny_pure ⟨_, rfl, hh out h1 _ hs hb hle hk rfl⟩
end
end PySem
namespace M
open PySem PySem.Spec PyProof.Rows L2
open Rp (rp)
section
variable {K : Frag} {X : Cx} {Γ Γ' Γ1 Γ2 : List (Sl X.K)} {e a b c tg : Expr} {S T : Sup} {φ : Asr X.K} {α : Type} [Rp α] {pos p1 p2 : Pos} {s : Sl X.K} {es : List Expr}
def tEvT2 (Γ : List (Sl K)) (S : Sup) (φ : Asr K) : TE := fun σ H Q => ∃ B F As, Ok B F Γ As σ H ∧ ∀ v H', Same H H' → φ.p (res H' (supp B F H S)) H' v → (∀ a vs, v = .ref a → SqT K H' a vs → vs.length ≤ sizeLine) → Q v H'
theorem Ev.lensT (h : Ev X Γ e S φ) : PE X e (tEvT2 Γ S φ) := by
  refine ⟨fun pins s σ H Q I ⟨B, F, As, ok, hq⟩ => ?_⟩
  refine thn (h.run pins s σ H (fun v H' => (∀ a vs, v = .ref a → SqT X.K H' a vs → vs.length ≤ sizeLine) → Q v H') I ⟨B, F, As, ok, fun v H' s p l => hq v H' s p l⟩) fun u s1 ⟨v, H1, I1, r1, q1⟩ => ⟨v, H1, I1, r1, q1 fun a vs ea hl => ?_⟩
  obtain ⟨_, _, _, z⟩ := I1.tuple hl
  exact z
variable {elts : List Expr} {kk : Nat} {tpos : Pos}
theorem EvI.tup {xs : Tu α} (h : Ev X Γ e S (M.va xs)) : EvI X Γ tg e S S xs.l := PI.imp (pi_tup h.lensT) fun σ H R ⟨B, F, As, ok, q⟩ => ⟨B, F, As, ok, fun v H1 s1 ⟨p, vs, e, hs, r⟩ hl =>
  ⟨p, e, ⟨vs, SqT.of (res_same _ _ hs)⟩, q _ H1 s1 (by rw [← r.len]; exact hl p vs e (SqT.of (res_same _ _ hs))) fun i H sz sg => by
    refine ⟨fun y hy => ?_, fun hl => ⟨vs, SqT.of (sz _ _ hs), by rw [r.len]; exact hl⟩⟩
    obtain ⟨v, hv, rv⟩ := r.get hy
    refine ⟨⟨vs, v, SqT.of (sz _ _ hs), hv⟩, fun x H' ⟨e, k⟩ => ?_⟩
    subst e
    refine ⟨Same.refl _, ?_⟩
    have : vs[i]? = some x := k vs (SqT.of (sz _ _ hs))
    rw [hv] at this; cases this
    exact Rp.mono (fun b o h => res_some.mpr ⟨.inr (by rw [h]; simp), sg _ _ h⟩) rv⟩⟩
end
open PySem PySem.Spec PyProof.Rows L2
open Rp (rp)
section
variable {K : Frag} {X : Cx} {Γ Γ' Γ1 Γ2 : List (Sl X.K)} {e a b c tg : Expr} {S T : Sup} {φ : Asr X.K} {α : Type} [Rp α] {pos p1 p2 : Pos} {s : Sl X.K} {es : List Expr}
def HsT (H : Hp) (D : Sup → Addr → Prop) (A : List Addr) : List (ArgM K) → List V → Prop
  | [], [] => True
  | a :: r, v :: vs => a.φ.p (res H fun b => D a.S b ∧ b ∉ A) H v ∧ HsT H D A r vs
  | _, _ => False
def tHT (Γ : List (Sl K)) (as : List (ArgM K)) (s : Sl K) : TA := fun σ H Q => ∃ B F As, Ok B F Γ As σ H ∧
  ∀ vs v H' A F', Same H H' → Same F F' → Same F' H' → (∀ b, F' b ≠ none → F b ≠ none ∨ H b = none) → (∀ a ∈ A, H a = none ∧ F' a = none) → A.Nodup → s.p B F' H' A (some v) → HsT H' (supp B F H) A as vs → Q (vs ++ [v]) H'
def EvHT (X : Cx) (Γ : List (Sl X.K)) (es : List Expr) (as : List (ArgM X.K)) (s : Sl X.K) : Prop := PA X es (tHT Γ as s)
theorem EvHT.cons {am : ArgM X.K} {as : List (ArgM X.K)} (h : Ev X Γ e am.S am.φ) (h2 : EvHT X Γ es as s) (hs : starEach (e :: es) X.env = (false, eval e X.env) :: starEach es X.env := by rfl) : EvHT X Γ (e :: es) (am :: as) s :=
  PA.imp (pa_cons h h2 hs) fun σ H Q ⟨B, F, As, ok, q⟩ => ⟨B, F, As, ok, fun u H1 s1 pu => ⟨B, F, As, ok.grow s1, fun vs v H' A F' a1 a2 a3 a4 a5 a6 a7 hv =>
    q (u :: vs) v H' A F' (s1.trans a1) a2 a3 (fun b hb => (a4 b hb).imp id fun z => s1.free z) (fun a ha => ⟨s1.free (a5 a ha).1, (a5 a ha).2⟩) a6 a7 ⟨am.φ.mono pu (fun b o hb => by
      obtain ⟨h1, h2⟩ := res_some.mp hb
      exact res_some.mpr ⟨⟨h1, fun z => by rw [(a5 b z).1] at h2; cases h2⟩, a1 _ _ h2⟩) a1, by
      clear q
      revert vs
      have mono : ∀ {as : List (ArgM X.K)} {vs : List V}, HsT H' (supp B F H1) A as vs → HsT H' (supp B F H) A as vs := by
        intro as
        induction as with
        | nil => intro vs h; cases vs with
          | nil => trivial
          | cons _ _ => exact h.elim
        | cons a as ih => intro vs h; cases vs with
          | nil => exact h.elim
          | cons w ws => exact ⟨a.φ.mono h.1 (res_mono (Same.refl _) fun b z => ⟨supp_grow s1 z.1, z.2⟩) (Same.refl _), ih h.2⟩
      intro vs hv
      exact mono hv⟩⟩⟩
end
open PySem PySem.Spec PyProof.Rows L2
open Rp (rp)
def LendS {K : Frag} (s t : Sl K) : Prop := ∀ B F H A sv, s.p B F H A sv → Same B H → Same F H → t.p H F H [] sv
section
variable {K : Frag} {α : Type} [Rp α]
theorem LendS.un : LendS (un : Sl K) un := fun _ _ _ _ _ h _ _ => rfl
theorem LendS.fz {x : α} : LendS (fz x : Sl K) (M.fz x) := fun _ _ _ _ _ ⟨_, h⟩ _ _ => ⟨rfl, h⟩
theorem LendS.bo {x : α} : LendS (bo x : Sl K) (M.bo x) := fun _ _ _ _ _ ⟨_, v, G, e, r, g⟩ s _ => ⟨rfl, v, G, e, r, fun b o h => (g b o h).imp id fun z => s _ _ z⟩
theorem LendS.oL {x : List α} {w : V → Prop} : LendS (oL w x : Sl K) (M.bo x) := fun B F H A sv ⟨a, vs, _, e, _, h, r⟩ _ sf => ⟨rfl, _, H, e, ⟨a, vs, rfl, h, r.mono fun _ _ => Rp.mono sf⟩, fun b o h => .inr h⟩
theorem LendS.oLL {x : List (List α)} {w : V → List Addr → Prop} : LendS (oLL w x : Sl K) (M.bo x) := fun B F H A sv ⟨a, ps, _, e, _, h, r⟩ _ sf => ⟨rfl, _, H, e, ⟨a, _, rfl, h, r.rs sf⟩, fun b o h => .inr h⟩
end
section
variable {K : Frag} {X : Cx} {Γ Γ' Γ1 Γ2 Δ : List (Sl X.K)} {e a b c tg : Expr} {S T : Sup} {φ : Asr X.K} {α : Type} [Rp α] {pos p1 p2 : Pos} {s : Sl X.K} {es : List Expr} {p : Bool}
theorem NoB.un {K : Frag} : NoB (M.un : Sl K) := fun _ _ _ _ _ _ h => h
variable {ν ν' β ρ ε : Type} {E : Be X.K β ρ ε} {γ : ν → List (Sl X.K)} {rest : List Stmt} {m : Option (Fl ν β ρ ε)} {st : Stmt}
end
open PySem PySem.Spec PyProof.Rows L2
open Rp (rp)
theorem LendS.gone {K : Frag} {s : Sl K} : LendS s M.un := fun _ _ _ _ _ _ _ _ => rfl
open PySem PySem.Spec PyProof.Rows L2
open Rp (rp)
structure Dc (κ α : Type) where
  l : List (κ × α)
def Dc.get {κ α : Type} [DecidableEq κ] (d : Dc κ α) (k : κ) : Option α := (d.l.find? fun kv => decide (kv.1 = k)).map (·.2)
def Dc.put {κ α : Type} [DecidableEq κ] (d : Dc κ α) (k : κ) (v : α) : Dc κ α := ⟨if (d.l.any fun kv => decide (kv.1 = k)) = true then d.l.map (fun kv => if kv.1 = k then (kv.1, v) else kv) else d.l ++ [(k, v)]⟩
class Ky (κ : Type) [Rp κ] [DecidableEq κ] where
  ek : Type
  deq : DecidableEq ek
  enc : κ → ek
  inj : ∀ x y, enc x = enc y → x = y
  ho : List (ek × V) → HO
  hoinj : ∀ a b, ho a = ho b → a = b
  nw : ∀ (X : Cx) (pos : Pos), PE X (.Dict [] [] pos) (fun _ H Q => ∀ p, H p = none → Q (.ref p) (upd H p (ho [])))
  get : ∀ (K : Frag) (H : Hp) (a : Addr) (kvs : List (ek × V)) (y : V) (x : κ), H a = some (ho kvs) → rp K H y x → DGet H a y (@valV ek deq kvs (enc x))
  put : ∀ (K : Frag) (H : Hp) (a : Addr) (kvs : List (ek × V)) (y v : V) (x : κ), H a = some (ho kvs) → rp K H y x → kvs.length < sizeLine → DPut H a y v (upd H a (ho (@putK ek deq kvs (enc x) v)))
instance : Ky (Int × Int) where
  ek := List Key
  deq := inferInstance
  enc := fun x => [.inl x.1, .inl x.2]
  inj := fun x y h => by
    simp at h
    exact Prod.ext h.1 h.2
  ho := .dT
  hoinj := fun a b h => by cases h; rfl
  nw := fun X pos => pe_dnewT
  get := fun K H a kvs y x h r => by
    obtain ⟨p, v1, v2, e, hp, r1, r2⟩ := r
    subst e
    rw [show v1 = _ from r1, show v2 = _ from r2] at hp
    exact DGet.t h hp
  put := fun K H a kvs y v x h r hl => by
    obtain ⟨p, v1, v2, e, hp, r1, r2⟩ := r
    subst e
    rw [show v1 = _ from r1, show v2 = _ from r2] at hp
    exact DPut.t h hp hl
instance : Ky Int where
  ek := Key
  deq := inferInstance
  enc := .inl
  inj := fun x y h => by cases h; rfl
  ho := .dK
  hoinj := fun a b h => by cases h; rfl
  nw := fun X pos => pe_dnewK
  get := fun K H a kvs y x h r => by rw [show y = _ from r]; exact DGet.k (k := Sum.inl x) h
  put := fun K H a kvs y v x h r hl => by rw [show y = _ from r]; exact DPut.k (k := Sum.inl x) h hl
section
variable {K : Frag} {κ α : Type} [Rp κ] [DecidableEq κ] [Ky κ] [Rp α]
def Kvs (R : V → α → Prop) : List (Ky.ek κ × V) → List (κ × α) → Prop
  | [], [] => True
  | p :: ps, q :: qs => (p.1 = Ky.enc q.1 ∧ R p.2 q.2) ∧ Kvs R ps qs
  | _, _ => False
theorem Kvs.mono {R R' : V → α → Prop} (k : ∀ v x, R v x → R' v x) : ∀ {ps : List (Ky.ek κ × V)} {qs : List (κ × α)}, Kvs R ps qs → Kvs R' ps qs
  | [], [], _ => trivial
  | _ :: _, _ :: _, h => ⟨⟨h.1.1, k _ _ h.1.2⟩, Kvs.mono k h.2⟩
  | [], _ :: _, h => h.elim
  | _ :: _, [], h => h.elim
theorem Kvs.len {R : V → α → Prop} : ∀ {ps : List (Ky.ek κ × V)} {qs : List (κ × α)}, Kvs R ps qs → ps.length = qs.length
  | [], [], _ => rfl
  | _ :: _, _ :: _, h => congrArg (· + 1) (Kvs.len h.2)
  | [], _ :: _, h => h.elim
  | _ :: _, [], h => h.elim
theorem dec_enc {x y : κ} : @decide (Ky.enc x = Ky.enc y) (Ky.deq (κ := κ) _ _) = decide (x = y) := by
  by_cases h : x = y
  · subst h; simp
  · have : Ky.enc x ≠ Ky.enc y := fun e => h (Ky.inj _ _ e)
    simp [h, this]
theorem Kvs.get {R : V → α → Prop} {k : κ} : ∀ {ps : List (Ky.ek κ × V)} {qs : List (κ × α)}, Kvs R ps qs → match (⟨qs⟩ : Dc κ α).get k with
    | some x => ∃ v, @valV _ (Ky.deq (κ := κ)) ps (Ky.enc k) = some v ∧ R v x
    | none => @valV _ (Ky.deq (κ := κ)) ps (Ky.enc k) = none
  | [], [], _ => rfl
  | p :: ps, q :: qs, h => by
    have ih := Kvs.get (k := k) h.2
    unfold Dc.get valV at ih ⊢
    simp only [List.find?_cons]
    rw [h.1.1, dec_enc]
    by_cases e : q.1 = k
    · simp only [e, decide_true, Option.map_some]
      exact ⟨p.2, rfl, h.1.2⟩
    · simp only [e, decide_false]
      exact ih
  | [], _ :: _, h => h.elim
  | _ :: _, [], h => h.elim
theorem Kvs.any {R : V → α → Prop} {k : κ} : ∀ {ps : List (Ky.ek κ × V)} {qs : List (κ × α)}, Kvs R ps qs → (ps.any fun kv => @decide (kv.1 = Ky.enc k) (Ky.deq (κ := κ) _ _)) = qs.any fun kv => decide (kv.1 = k)
  | [], [], _ => rfl
  | p :: ps, q :: qs, h => by rw [List.any_cons, List.any_cons, Kvs.any h.2, h.1.1, dec_enc]
  | [], _ :: _, h => h.elim
  | _ :: _, [], h => h.elim
theorem Kvs.app {R : V → α → Prop} {k : κ} {v : V} {x : α} (r : R v x) : ∀ {ps : List (Ky.ek κ × V)} {qs : List (κ × α)}, Kvs R ps qs → Kvs R (ps ++ [(Ky.enc k, v)]) (qs ++ [(k, x)])
  | [], [], _ => ⟨⟨rfl, r⟩, trivial⟩
  | _ :: _, _ :: _, h => ⟨h.1, Kvs.app r h.2⟩
  | [], _ :: _, h => h.elim
  | _ :: _, [], h => h.elim
theorem Kvs.upd {R : V → α → Prop} {k : κ} {v : V} {x : α} (r : R v x) : ∀ {ps : List (Ky.ek κ × V)} {qs : List (κ × α)}, Kvs R ps qs → Kvs R (ps.map fun kv => @ite _ (kv.1 = Ky.enc k) (Ky.deq (κ := κ) _ _) (kv.1, v) kv) (qs.map fun kv => if kv.1 = k then (kv.1, x) else kv)
  | [], [], _ => trivial
  | p :: ps, q :: qs, h => by
    refine ⟨?_, Kvs.upd r h.2⟩
    dsimp only
    by_cases e : q.1 = k
    · have e2 : p.1 = Ky.enc k := by rw [h.1.1, e]
      rw [if_pos e2, if_pos e]
      exact ⟨h.1.1, r⟩
    · have e2 : p.1 ≠ Ky.enc k := by rw [h.1.1]; exact fun z => e (Ky.inj _ _ z)
      rw [if_neg e2, if_neg e]
      exact h.1
  | [], _ :: _, h => h.elim
  | _ :: _, [], h => h.elim
theorem Kvs.put {R : V → α → Prop} {k : κ} {v : V} {x : α} (r : R v x) {ps : List (Ky.ek κ × V)} {qs : List (κ × α)} (h : Kvs R ps qs) : Kvs R (@putK _ (Ky.deq (κ := κ)) ps (Ky.enc k) v) ((⟨qs⟩ : Dc κ α).put k x).l := by
  unfold putK Dc.put
  rw [h.any]
  by_cases e : (qs.any fun kv => decide (kv.1 = k)) = true
  · simp only [e, if_true]
    exact h.upd r
  · simp only [e]
    exact h.app r
end
open PySem PySem.Spec PyProof.Rows L2
open Rp (rp)
def mb {K : Frag} {α : Type} [Rp α] : Option α → Sl K
  | none => un
  | some x => fz x
open PySem PySem.Spec PyProof.Rows L2
open Rp (rp)
class Od (α : Type) [Rp α] [DecidableEq α] [De α] where
  alike : ∀ x y : α, PySem.W.alike (De.enc x) (De.enc y) = true
  kind : (∀ b : α, ∃ x r, De.enc b = .tuple (x :: r)) ∨ (∀ b : α, De.enc b ≠ .none ∧ ∀ xs, De.enc b ≠ .tuple xs)
  nn : ∀ b : α, De.enc b ≠ .none
  le : α → α → Bool
  le_eq : PySem.W.dataLe false (De.enc (α := α)) = le
instance : Od Int where
  alike := fun x y => by simp [De.enc, PySem.W.alike]
  kind := .inr fun b => ⟨by simp [De.enc], fun xs => by simp [De.enc]⟩
  nn := fun b => by simp [De.enc]
  le := fun x y => decide (x ≤ y)
  le_eq := PySem.W.dataLe_int fun x => x
instance : Od (List Int) where
  alike := fun x y => by
    show PySem.W.alike (.list (x.map .int)) (.list (y.map .int)) = true
    simp [PySem.W.alike, PySem.W.alike_ints]
  kind := .inr fun b => ⟨by simp [De.enc], fun xs => by simp [De.enc]⟩
  nn := fun b => by simp [De.enc]
  le := fun x y => decide (x ≤ y)
  le_eq := PySem.W.dataLe_rows fun x => x
instance : Od (Int × Int) where
  alike := fun x y => by
    show PySem.W.alike (.tuple [.int x.1, .int x.2]) (.tuple [.int y.1, .int y.2]) = true
    simp [PySem.W.alike, PySem.W.alikeAll]
  kind := .inl fun b => ⟨.int b.1, [.int b.2], rfl⟩
  nn := fun b => by simp [De.enc]
  le := fun p q => decide (p.1 < q.1 ∨ (p.1 = q.1 ∧ p.2 ≤ q.2))
  le_eq := PySem.W.dataLe_ii (fun p : Int × Int => p.1) (fun p => p.2)
section
variable {X : Cx} {α : Type} [Rp α] [DecidableEq α] [De α] [Od α]
theorem Od.all (xs : List α) : PySem.W.AllAlike (xs.map De.enc) := PySem.W.AllAlike.of Od.alike
end
open PySem PySem.Spec PyProof.Rows L2
open Rp (rp)
theorem units100 {k : Nat} {A : Around} (r : Room k A) : A.units + 100 < cLine := by have := r.un; omega
open PySem PySem.Spec PyProof.Rows L2
open Rp (rp)
section
variable {K : Frag} {X : Cx} {Γ Γ1 : List (Sl X.K)} {e a ke ve tg : Expr} {S T : Sup} {α : Type} [Rp α] {pos p1 p2 : Pos}
theorem EvM.lens {xs : List α} (h : EvM X Γ e (fz xs) Γ1) : PE X e (fun σ H Q => ∃ B F As, Ok B F Γ As σ H ∧ ∀ v F' As' H', Ok B F' Γ1 As' σ H' → Fr F As H F' As' H' → rp X.K F' v xs → (∀ a vs, v = .ref a → SqL X.K H' a vs → vs.length ≤ sizeLine) → Q v H') := by
  refine ⟨fun pins s σ H Q I ⟨B, F, As, ok, hq⟩ => ?_⟩
  refine thn (h.run pins s σ H (fun v H' => (∀ a vs, v = .ref a → SqL X.K H' a vs → vs.length ≤ sizeLine) → Q v H') I ⟨B, F, As, ok, fun v A F' As' H' ok' fr l => ?_⟩) fun u s1 ⟨v, H1, I1, r1, q1⟩ => ⟨v, H1, I1, r1, q1 fun a vs ea hl => ?_⟩
  · obtain ⟨⟨eA, w, e, r⟩, _, _⟩ := ok'.head
    cases e
    have fr2 := fr_tail fr
    exact hq v F' As' H' ok'.tail fr2 r l
  · obtain ⟨_, _, _, z⟩ := I1.list hl
    exact z
end
open PySem PySem.Spec PyProof.Rows L2
open Rp (rp)
section
variable {K : Frag} {α : Type} [Rp α]
theorem RL.split {F H : Hp} {p : Addr} : ∀ {P : List Addr} {xss : List (List α)} {jj : Nat}, RL K F H P xss → P[jj]? = some p → ∃ ps qs, P = ps ++ p :: qs ∧ ps.length = jj ∧ jj < xss.length ∧ RL K F H ps (xss.take jj) ∧ RL K F H qs (xss.drop (jj + 1))
  | q :: P, xs :: r, 0, h, e => by
    simp at e; subst e
    exact ⟨[], P, rfl, rfl, by simp, trivial, h.2⟩
  | q :: P, xs :: r, jj + 1, h, e => by
    obtain ⟨ps, qs, e1, e2, e3, h1, h2⟩ := RL.split (jj := jj) h.2 (by simpa using e)
    exact ⟨q :: ps, qs, by rw [e1]; rfl, by simp [e2], by simp; omega, ⟨h.1, h1⟩, h2⟩
  | [], [], _, _, e => by simp at e
  | [], _ :: _, _, h, _ => h.elim
  | _ :: _, [], _, h, _ => h.elim
theorem hole_notin {A A' : List Addr} {x : Addr} (hx : x ∈ A) (hx' : x ∉ A') : ∀ {As : List (List Addr)} {i : Nat}, As.flatten.Nodup → As[i]? = some A → x ∉ (As.set i A').flatten
  | [], i, _, e => by simp at e
  | B :: As, 0, nd, e => by
    simp at e; subst e
    rw [List.flatten_cons, List.nodup_append] at nd
    show x ∉ (A' :: As).flatten
    rw [List.flatten_cons, List.mem_append]
    exact fun h => h.elim hx' fun h => nd.2.2 x hx x h rfl
  | B :: As, i + 1, nd, e => by
    rw [List.flatten_cons, List.nodup_append] at nd
    have e' : As[i]? = some A := by simpa using e
    show x ∉ (B :: As.set i A').flatten
    rw [List.flatten_cons, List.mem_append]
    exact fun h => h.elim (fun h => nd.2.2 x h x (List.mem_flatten.mpr ⟨A, List.mem_of_getElem? e', hx⟩) rfl) (hole_notin hx hx' nd.2.1 e')
theorem Ok.two {B F H : Hp} {Γ : List (Sl K)} {As : List (List Addr)} {σ : St} {s1 s2 : Sl K} {Ai Aj Ai' Aj' : List Addr} {vi vj : Option V} {i j : Nat} (ok : Ok B F Γ As σ H) (hij : i ≠ j) (hAi : As[i]? = some Ai) (hAj : As[j]? = some Aj) (hsi : σ[i]? = some vi) (pi : s1.p B F H Ai' vi) (pj : s2.p B F H Aj' vj)
    (nd : (Ai' ++ Aj').Nodup) (sub : ∀ x ∈ Ai' ++ Aj', x ∈ Ai ∨ x ∈ Aj) : Ok B F ((Γ.set i s1).set j s2) ((As.set i Ai').set j Aj') (σ.set j vj) H ∧ ∀ x ∈ ((As.set i Ai').set j Aj').flatten, x ∈ As.flatten := by
  have inA : ∀ x, x ∈ Ai ∨ x ∈ Aj → x ∈ As.flatten := fun x h => h.elim (fun h => List.mem_flatten.mpr ⟨_, List.mem_of_getElem? hAi, h⟩) fun h => List.mem_flatten.mpr ⟨_, List.mem_of_getElem? hAj, h⟩
  have subA : ∀ x ∈ ((As.set i Ai').set j Aj').flatten, x ∈ As.flatten := fun x hx => by
    rcases mem_flat_set hx with h | h
    · exact inA x (sub x (List.mem_append_right _ h))
    · rcases mem_flat_set h with h | h
      · exact inA x (sub x (List.mem_append_left _ h))
      · exact h
  obtain ⟨ndi, ndj, dj⟩ := List.nodup_append.mp nd
  have n1 : (As.set j []).flatten.Nodup := nodup_flat_set2 List.nodup_nil ok.nd hAj fun a h => by cases h
  have hAi1 : (As.set j [])[i]? = some Ai := by rw [List.getElem?_set_ne (fun e => hij e.symm)]; exact hAi
  have n2 : ((As.set j []).set i Ai').flatten.Nodup := nodup_flat_set2 ndi n1 hAi1 fun a h => (sub a (List.mem_append_left _ h)).imp id fun z => hole_notin z (by simp) ok.nd hAj
  have hj2 : ((As.set j []).set i Ai')[j]? = some [] := by
    rw [List.getElem?_set_ne hij, List.getElem?_set_self (List.getElem?_eq_some_iff.mp hAj).1]
  have n3 : (((As.set j []).set i Ai').set j Aj').flatten.Nodup := nodup_flat_set2 ndj n2 hj2 fun a h => .inr (by
    have hna : a ∉ Ai' := fun z => dj a z a h rfl
    rcases sub a (List.mem_append_right _ h) with z | z
    · exact hole_notin z hna n1 hAi1
    · exact fun hm => (mem_flat_set hm).elim hna fun hm => hole_notin z (by simp) ok.nd hAj hm)
  have e3 : ((As.set j []).set i Ai').set j Aj' = (As.set i Ai').set j Aj' := by
    rw [List.set_comm _ _ (fun e => hij e.symm), List.set_set]
  rw [e3] at n3
  exact ⟨⟨Mt.set pj (ok.mt.back pi i hsi) j, ok.sb, ok.sf, n3, fun a h => ok.ff a (subA a h), fun a h => ok.fb a (subA a h)⟩, subA⟩
end
open PySem PySem.Spec PyProof.Rows L2
open Rp (rp)
def encO {α : Type} [Rp α] [DecidableEq α] [De α] : Option (List α) → PyData
  | .none => .none
  | .some xs => De.enc xs
instance {α : Type} [Rp α] [DecidableEq α] [De α] : De (Option (List α)) where
  enc := encO
  n := De.n (List α) + 1
  dp := fun {K H v x} h => by
    cases x with
    | none => cases h; exact .non
    | some xs => exact De.dp h.1
  lay := fun x => by
    cases x with
    | none => rfl
    | some xs => exact De.lay xs
  dep := fun x => by
    cases x with
    | none => simp [encO, PyData.depth]
    | some xs => exact Nat.le_succ_of_le (De.dep xs)
  eqv := fun x y => by
    cases x with
    | none => cases y with
      | none => rfl
      | some j =>
        show PyData.eqv .none (.list _) = _
        simp [PyData.eqv]
    | some i => cases y with
      | none =>
        show PyData.eqv (.list _) .none = _
        simp [PyData.eqv]
      | some j =>
        show PyData.eqv (De.enc i) (De.enc j) = _
        rw [De.eqv]; simp
open PySem PySem.Spec PyProof.Rows L2
open Rp (rp)
inductive Pap
  | non
  | lst (l : List (Option Int))
  | full (p : Int)
  | cho (p : Int) (l : List Pap)
mutual
  def rpPap (K : Frag) (H : Hp) (v : V) : Pap → Prop
    | .non => v = .non
    | .lst l => rp K H v l
    | .full p => rp K H v ((Str.ofString "full", p) : Str × Int)
    | .cho p l => ∃ a b vs, v = .ref a ∧ H a = some (.tup [.str (Str.ofString "choose"), .int p, .ref b]) ∧ H b = some (.tup vs) ∧ rpPaps K H vs l
  def rpPaps (K : Frag) (H : Hp) : List V → List Pap → Prop
    | [], [] => True
    | v :: vs, x :: xs => rpPap K H v x ∧ rpPaps K H vs xs
    | [], _ :: _ => False
    | _ :: _, [] => False
end
mutual
  theorem rpPap_mono {K : Frag} {F H : Hp} (s : Same F H) : ∀ {v : V} {x : Pap}, rpPap K F v x → rpPap K H v x
    | _, .non, h => by unfold rpPap at h ⊢; exact h
    | _, .lst l, h => by unfold rpPap at h ⊢; exact Rp.mono s h
    | _, .full p, h => by unfold rpPap at h ⊢; exact Rp.mono s h
    | _, .cho p l, h => by
      unfold rpPap at h ⊢
      obtain ⟨a, b, vs, e, h1, h2, r⟩ := h
      exact ⟨a, b, vs, e, s _ _ h1, s _ _ h2, rpPaps_mono s r⟩
  theorem rpPaps_mono {K : Frag} {F H : Hp} (s : Same F H) : ∀ {vs : List V} {xs : List Pap}, rpPaps K F vs xs → rpPaps K H vs xs
    | [], [], _ => by unfold rpPaps; trivial
    | _ :: _, _ :: _, h => by
      unfold rpPaps at h ⊢
      exact ⟨rpPap_mono s h.1, rpPaps_mono s h.2⟩
    | [], _ :: _, h => by unfold rpPaps at h; exact h.elim
    | _ :: _, [], h => by unfold rpPaps at h; exact h.elim
end
instance : Rp Pap := { rp := rpPap, mono := fun s h => rpPap_mono s h }
theorem rpPaps_iff {K : Frag} {H : Hp} : ∀ {vs : List V} {xs : List Pap}, rpPaps K H vs xs ↔ Rs (rp K H) vs xs
  | [], [] => by unfold rpPaps Rs; exact Iff.rfl
  | _ :: _, _ :: _ => by
    unfold rpPaps Rs
    rw [rpPaps_iff]
    exact Iff.rfl
  | [], _ :: _ => by unfold rpPaps Rs; exact Iff.rfl
  | _ :: _, [] => by unfold rpPaps Rs; exact Iff.rfl
theorem rp_non {K : Frag} {H : Hp} {v : V} : rp K H v Pap.non ↔ v = .non := by show rpPap K H v _ ↔ _; unfold rpPap; exact Iff.rfl
theorem rp_plst {K : Frag} {H : Hp} {v : V} {l : List (Option Int)} : rp K H v (Pap.lst l) ↔ rp K H v l := by show rpPap K H v _ ↔ _; unfold rpPap; exact Iff.rfl
theorem rp_full {K : Frag} {H : Hp} {v : V} {p : Int} : rp K H v (Pap.full p) ↔ rp K H v ((Str.ofString "full", p) : Str × Int) := by show rpPap K H v _ ↔ _; unfold rpPap; exact Iff.rfl
theorem rp_cho {K : Frag} {H : Hp} {v : V} {p : Int} {l : List Pap} : rp K H v (Pap.cho p l) ↔ rp K H v (T3.mk (Str.ofString "choose") p (Tu.mk l)) := by
  show rpPap K H v _ ↔ _
  unfold rpPap
  constructor
  · intro ⟨a, b, vs, e, h1, h2, r⟩
    exact ⟨a, _, _, _, e, h1, rfl, rfl, b, vs, rfl, h2, rpPaps_iff.mp r⟩
  · intro ⟨a, v1, v2, v3, e, h1, e1, e2, b, vs, e3, h2, r⟩
    cases e1; cases e2; cases e3
    exact ⟨a, b, vs, e, h1, h2, rpPaps_iff.mpr r⟩
def Pap.w0 : Pap → Option Str
  | .full _ => some (Str.ofString "full")
  | .cho _ _ => some (Str.ofString "choose")
  | _ => none
def Pap.w1 : Pap → Option Int
  | .full p => some p
  | .cho p _ => some p
  | _ => none
def Pap.w2 : Pap → Option (Tu Pap)
  | .cho _ l => some ⟨l⟩
  | _ => none
open PySem PySem.Spec PyProof.Rows L2
open Rp (rp)
section
variable {prog : Program} {w : World} {A : Around} {E : Value → Shared → Prop} {s : Shared} {z TI TO i1 i2 l1 l2 : Addr} {xs ys : Array Value} {a b : Value} {k : Nat}
structure LTat (h : Heap) (z TI TO i1 i2 l1 l2 : Addr) (k : Nat) (f a b : Value) : Prop where
  gz : IsZip h z TI TO f
  gI : IsPair h TI (.ref i1) (.ref i2)
  gO : IsPair h TO a b
  g1 : h.IsListIter i1 l1 k
  g2 : h.IsTupleIter i2 l2 k
end
def itL (l : Addr) : Obj := { cls := .type "list_iterator", data := .fields #[.ref l, .int 0 0] }
def itT (l : Addr) : Obj := { cls := .type "tuple_iterator", data := .fields #[.ref l, .int 0 0] }
def hA (h : Heap) (l1 : Addr) : Heap := h.push (itL l1)
def hB (h : Heap) (l1 l2 : Addr) : Heap := (hA h l1).push (itT l2)
def hC (h : Heap) (l1 l2 : Addr) : Heap := (hB h l1 l2).push { cls := .type "tuple", data := .seq #[.ref h.objs.size, .ref (hA h l1).objs.size] }
def hD (h : Heap) (l1 l2 : Addr) : Heap := (hC h l1 l2).push { cls := .type "tuple", data := .seq #[.none, .none] }
def hE (h : Heap) (l1 l2 : Addr) : Heap := (hD h l1 l2).push { cls := .type "zip", data := .fields #[.none, .bool false, .bool false, .ref (hB h l1 l2).objs.size, .ref (hC h l1 l2).objs.size] }
open PySem PySem.Spec PyProof.Rows L2
open Rp (rp)
def pPap (K : Frag) (F H : Hp) (A : List Addr) (v : V) : Pap → Prop
  | .lst l => ∃ b vs, A = [b] ∧ v = .ref b ∧ H b = some (.lst vs) ∧ Rs (rp K F) vs l
  | y => A = [] ∧ rp K F v y
section
variable {K : Frag}
theorem pPap.fr {F F' H H' : Hp} {A : List Addr} {v : V} {x : Pap} (h : pPap K F H A v x) (s : Same F F') (k : ∀ a ∈ A, H' a = H a) : pPap K F' H' A v x := by
  cases x with
  | lst l => obtain ⟨b, vs, e, e2, h1, r⟩ := h; exact ⟨b, vs, e, e2, (k b (by rw [e]; simp)).trans h1, r.mono fun _ _ => Rp.mono s⟩
  | non => exact ⟨h.1, Rp.mono s h.2⟩
  | full p => exact ⟨h.1, Rp.mono s h.2⟩
  | cho p l => exact ⟨h.1, Rp.mono s h.2⟩
theorem pPap.lv {F H : Hp} {A : List Addr} {v : V} {x : Pap} (h : pPap K F H A v x) : ∀ a ∈ A, H a ≠ none := fun a ha => by
  cases x with
  | lst l => obtain ⟨b, vs, e, e2, h1, r⟩ := h; rw [e] at ha; rw [show a = b by simpa using ha, h1]; simp
  | non => rw [h.1] at ha; cases ha
  | full p => rw [h.1] at ha; cases ha
  | cho p l => rw [h.1] at ha; cases ha
def oRes (x : Str × Pap) : Sl K := ⟨fun _ F H A sv => ∃ a v, sv = some (.ref a) ∧ F a = some (.tup [.str x.1, v]) ∧ pPap K F H A v x.2, fun ⟨a, v, e, f, h⟩ s k => ⟨a, v, e, s _ _ f, h.fr s k⟩, fun ⟨_, _, _, _, h⟩ => h.lv⟩
theorem NoB.oRes {x : Str × Pap} : NoB (M.oRes x : Sl K) := fun _ _ _ _ _ _ h => h
def PLike (s : Sl K) (x : Pap) : Prop := ∀ B F H A sv, s.p B F H A sv → ∃ v, sv = some v ∧ pPap K F H A v x
theorem PLike.lst {w : V → Prop} {l : List (Option Int)} : PLike (oL w l : Sl K) (.lst l) := fun _ _ _ _ _ ⟨a, vs, e, e2, _, h, r⟩ => ⟨_, e2, a, vs, e, rfl, h, r⟩
theorem nodup_of {As : List (List Addr)} {A : List Addr} (nd : As.flatten.Nodup) (h : A ∈ As) : A.Nodup := nodup_mem nd h
theorem set_selfA {α : Type} : ∀ {As : List α} {i : Nat} {A : α}, As[i]? = some A → As.set i A = As
  | [], _, _, h => by simp at h
  | a :: As, 0, A, h => by
    have : a = A := by simpa using h
    rw [this]; rfl
  | a :: As, i + 1, A, h => by
    have h : As[i]? = some A := by simpa using h
    rw [List.set_cons_succ, set_selfA h]
theorem Ok.conv {B F H : Hp} {Γ : List (Sl K)} {As : List (List Addr)} {σ : St} {i : Nat} {s s' : Sl K} (ok : Ok B F Γ As σ H) (hi : Γ[i]? = some s) (k : ∀ A sv, s.p B F H A sv → s'.p B F H A sv) : Ok B F (Γ.set i s') As σ H := by
  obtain ⟨A, v, hA, hs, h⟩ := ok.mt.get hi
  have inA : ∀ a ∈ A, a ∈ As.flatten := fun a ha => List.mem_flatten.mpr ⟨A, List.mem_of_getElem? hA, ha⟩
  have := ok.mutG2 hA hs (k A v h) (nodup_of ok.nd (List.mem_of_getElem? hA)) (fun b hb => .inl hb) (fun b _ => rfl) ok.sb (Same.refl _) ok.sf (fun b hb => ok.ff b (inA b hb)) (fun b hb => ok.ff b (flat_nil_set hb))
  rwa [set_selfA hA] at this
theorem Ok.gone {B F H : Hp} {Γ : List (Sl K)} {As : List (List Addr)} {σ : St} {i : Nat} {A : List Addr} {v : Option V} (ok : Ok B F Γ As σ H) (hA : As[i]? = some A) (hs : σ[i]? = some v) : Ok B F (Γ.set i un) (As.set i []) σ H := by
  have := ok.set (s := un) (A := []) (v := v) i rfl List.nodup_nil fun a z => by cases z
  rwa [set_selfA hs] at this
end
section
variable {X : Cx} {Γ Γ' Γ1 : List (Sl X.K)} {e a b : Expr} {S T : Sup} {pos p1 p2 apos : Pos} {n n2 : Str}
def Pap.noL : Pap → Option Unit
  | .lst _ => none
  | _ => some ()
theorem Ev.res {x : Str × Pap} {u : Unit} (h : Ev X Γ e .fz (va x)) (k : Pap.noL x.2 = some u) : EvO X Γ e (oRes x) := PE.imp h fun σ H Q ⟨B, F, As, ok, q⟩ => ⟨B, F, As, ok, fun v H' s p => by
  obtain ⟨a, v1, v2, e, h1, r1, r2⟩ := p
  subst e
  cases r1
  refine q _ H' [] (M.res H' (supp B F H .fz)) s (fun b o h => res_some.mpr ⟨.inr (by rw [h]; simp), s _ _ (ok.sf _ _ h)⟩) res_same
    (fun b h => by
      have z : supp B F H .fz b := Classical.byContradiction fun z => h (res_none z)
      exact z.elim .inr .inl) (fun b hb => by cases hb) List.nodup_nil ⟨a, v2, rfl, h1, ?_⟩
  obtain ⟨w, y⟩ := x
  cases y with
  | lst l => cases k
  | non => exact ⟨rfl, r2⟩
  | full p => exact ⟨rfl, r2⟩
  | cho p l => exact ⟨rfl, r2⟩⟩
variable {ν β ρ ε : Type} {E : Be X.K β ρ ε} {γ : ν → List (Sl X.K)} {ss rest : List Stmt} {m : Option (Fl ν β ρ ε)}
end
mutual
  def encPap : Pap → PyData
    | .non => .none
    | .lst l => .list (l.map De.enc)
    | .full p => .tuple [.str (Str.ofString "full"), .int p]
    | .cho p l => .tuple [.str (Str.ofString "choose"), .int p, .tuple (encPaps l)]
  def encPaps : List Pap → List PyData
    | [] => []
    | x :: xs => encPap x :: encPaps xs
end
mutual
  theorem dpPap {K : Frag} {H : Hp} : ∀ {v : V} {x : Pap}, rp K H v x → Dp K H v (encPap x)
    | _, .non, h => by rw [rp_non.mp h]; unfold encPap; exact .non
    | _, .lst l, h => by unfold encPap; exact De.dp (α := List (Option Int)) (rp_plst.mp h)
    | _, .full p, h => by
      obtain ⟨a, v1, v2, e, h1, r1, r2⟩ := rp_full.mp h
      cases r1; cases r2
      unfold encPap
      rw [e]; exact .tup (SqT.of h1) (.cons (.str _) (.cons (.int _) .nil))
    | _, .cho p l, h => by
      obtain ⟨a, v1, v2, v3, e, h1, r1, r2, b, vs, e3, h2, r⟩ := rp_cho.mp h
      cases r1; cases r2; cases e3
      unfold encPap
      rw [e]; exact .tup (SqT.of h1) (.cons (.str _) (.cons (.int _) (.cons (.tup (SqT.of h2) (dpPaps r)) .nil)))
  theorem dpPaps {K : Frag} {H : Hp} : ∀ {vs : List V} {xs : List Pap}, Rs (rp K H) vs xs → DpAll K H vs (encPaps xs)
    | [], [], _ => by unfold encPaps; exact .nil
    | _ :: _, _ :: _, h => by unfold encPaps; exact .cons (dpPap h.1) (dpPaps h.2)
    | [], _ :: _, h => h.elim
    | _ :: _, [], h => h.elim
end
mutual
  theorem layPap : ∀ x : Pap, (encPap x).canLay0 = true
    | .non => by unfold encPap; rfl
    | .lst l => by unfold encPap; exact De.lay (α := List (Option Int)) l
    | .full p => by
      have k : PyData.strOk (Str.ofString "full") = true := by decide +kernel
      unfold encPap; simp [PyData.canLay0, PyData.canLayAll0, k]
    | .cho p l => by
      unfold encPap
      have := layPaps l
      have k : PyData.strOk (Str.ofString "choose") = true := by decide +kernel
      simp [k, PyData.canLay0, PyData.canLayAll0, this]
  theorem layPaps : ∀ xs : List Pap, PyData.canLayAll0 (encPaps xs) = true
    | [] => by unfold encPaps; rfl
    | x :: xs => by
      unfold encPaps
      rw [PyData.canLayAll0, layPap x, layPaps xs]; rfl
end
mutual
  theorem eqvPap : ∀ x : Pap, PyData.eqv (encPap x) (encPap x) = true
    | .non => by unfold encPap; rfl
    | .lst l => by unfold encPap; exact (De.eqv (α := List (Option Int)) l l).trans (by simp)
    | .full p => by unfold encPap; simp [PyData.eqv, PyData.eqvAll]
    | .cho p l => by
      unfold encPap
      have := eqvPaps l
      simp [PyData.eqv, PyData.eqvAll, this]
  theorem eqvPaps : ∀ xs : List Pap, PyData.eqvAll (encPaps xs) (encPaps xs) = true
    | [] => by unfold encPaps; rfl
    | x :: xs => by
      unfold encPaps
      rw [PyData.eqvAll, eqvPap x, eqvPaps xs]; rfl
end
open PySem PySem.Spec PyProof.Rows L2
open Rp (rp)
def splitO (a b : Str) : Option (List Str) := if (b.length == 0) = false ∧ a.length + 2 ≤ sizeLine then some (Txt.split a b) else none
section
variable {X : Cx} {Γ : List (Sl X.K)} {e a b : Expr} {S T : Sup} {pos p1 apos : Pos}
theorem Rs.ofStrs {K : Frag} {G : Hp} : ∀ xs : List Str, Rs (rp K G) (xs.map V.str) xs
  | [] => trivial
  | x :: xs => ⟨rfl, Rs.ofStrs xs⟩
theorem EvN.split {x y : Str} {zs : List Str} (ha : Ev X Γ a S (va x)) (hb : Ev X Γ b T (va y)) (h : splitO x y = some zs) (hs : starEach [b] X.env = [(false, eval b X.env)] := by rfl)
    (hbase : attributeBase a "split" X.env (eval a X.env) = eval a X.env := by rfl) (hline : (apos.endLine == pos.line) = true := by rfl) : EvN X Γ (.Call (.Attribute a "split" apos) [b] [] pos) .fz zs := by
  unfold splitO at h
  split at h
  · rename_i hc
    cases h
    refine PE.imp (pe_split ha hb hs hbase hline) fun σ H Q ⟨B, F, As, ok, q⟩ => ⟨B, F, As, ok, fun v H1 s1 p1 => ⟨⟨x, p1⟩, B, F, As, ok.grow s1, fun w H2 s2 p2 => ⟨x, y, p1, by rw [show w = _ from p2], hc.1, hc.2, fun p hp => ?_⟩⟩⟩
    exact q p _ H2 (s1.trans s2) hp (Rs.ofStrs _)
  · cases h
structure IsW (K : Frag) (C : Addr) : Prop where
  ha : PySem.W.findIn K (.ref C) "__class__" = some (some (.builtin "object.__class__"))
  hn : PySem.W.specialIn K (.builtin "object.__class__") "__get__" = some (some (.builtin "getset_descriptor.__get__"))
  ht : PySem.W.takesIn K (.builtin "object.__class__") = some true
  hm : PySem.W.mroIn K C (.type "object") = some true
end
open PySem PySem.Spec PyProof.Rows L2
open Rp (rp)
inductive Fv
  | int (i : Int) | pr (a b : Int) | t3 (a b c : Int) | ft (s : Str) (a b : Int)
def rpFv (K : Frag) (H : Hp) (v : V) : Fv → Prop
  | .int i => rp K H v i
  | .pr a b => rp K H v ((a, b) : Int × Int)
  | .t3 a b c => rp K H v (T3.mk a b c)
  | .ft s a b => rp K H v (T3.mk s a b)
theorem rpFv_mono {K : Frag} {F H : Hp} {v : V} (s : Same F H) : ∀ {x : Fv}, rpFv K F v x → rpFv K H v x
  | .int _, h => Rp.mono s h
  | .pr _ _, h => Rp.mono s h
  | .t3 _ _ _, h => Rp.mono s h
  | .ft _ _ _, h => Rp.mono s h
structure Er where
  nm : Str
  fs : List (Str × Fv)
def exC (K : Frag) (n : Str) : Addr := match PySem.W.nsIn K mainGlobals n with
  | some (some (.ref C)) => C
  | _ => 0
def XF (K : Frag) (H : Hp) (d : Option Addr) (fs : List (Str × Fv)) : Prop :=
  (fs = [] → d = none) ∧ (fs ≠ [] → ∃ dd us, d = some dd ∧ H dd = some (.xd us) ∧ ∀ f x, (f, x) ∈ fs → ∃ u, us.lookup f = some u ∧ rpFv K H u x)
theorem XF.mono {K : Frag} {F H : Hp} {d : Option Addr} {fs : List (Str × Fv)} (h : XF K F d fs) (s : Same F H) : XF K H d fs := ⟨h.1, fun n => by
  obtain ⟨dd, us, e, h1, h2⟩ := h.2 n
  refine ⟨dd, us, e, s _ _ h1, fun f x hx => ?_⟩
  obtain ⟨u, a, b⟩ := h2 f x hx
  exact ⟨u, a, rpFv_mono s b⟩⟩
abbrev xrE {K : Frag} : Er → Value → Option Addr → Hp → Prop := fun e cls d H => cls = .ref (exC K e.nm) ∧ XF K H d e.fs
def retX {ν ρ ε : Type} : Option (Fl ν Empty ρ ε) → Option (ρ ⊕ ε)
  | some (.rt r) => some (.inl r)
  | some (.xc e) => some (.inr e)
  | _ => none
structure ErOk (K : Frag) (mg : Str → Option Value) (n : Str) : Prop where
  x : PySem.W.excIn K (exC K n) [.type "ValueError", .type "Exception", .type "BaseException", .type "object"] "ValueError.__new__" = true
  k : PySem.W.keepIn K (.ref (exC K n)) = true
  b : PySem.W.subIn K (.ref (exC K n)) (.type "BaseException") = some true
  t : PySem.W.typeIn K (.ref (exC K n)) = some (.type "type")
  g : mg n = some (.ref (exC K n))
section
variable {X : Cx} {Γ Γ' : List (Sl X.K)} {e : Expr} {es : List Expr} {pos p1 p2 p3 : Pos} {ν ν' β ρ ε : Type} {γ : ν → List (Sl X.K)} {rest : List Stmt}
def tEvX {K : Frag} {ρ ε : Type} (Γ : List (Sl K)) (R : ρ → Sl K) (m : Option (ρ ⊕ ε)) (xr : ε → Value → Option Addr → Hp → Prop) (W : WX) : TE := fun σ H Q => ∃ B F As, Ok B F Γ As σ H ∧ ∃ o, m = some o ∧ match o with
  | .inl r => ∀ v A F' As' H', Ok B F' (R r :: Γ) (A :: As') (some v :: σ) H' → Fr F As H F' (A :: As') H' → Q v H'
  | .inr e => ∀ cls d F' H', xr e cls d F' → Ok B F' Γ As σ H' → Fr F As H F' As H' → W cls d σ H'
def EvX {ρ ε : Type} (X : Cx) (Γ : List (Sl X.K)) (e : Expr) (R : ρ → Sl X.K) (m : Option (ρ ⊕ ε)) (xr : ε → Value → Option Addr → Hp → Prop) (W : WX) : Prop := PE X e (tEvX Γ R m xr W)
section
variable {ι : Type} {Γ0 : ι → List (Sl X.K)} {m : ι → Option (Fl ν Empty ρ Er)} {γ0 : ι → ν → List (Sl X.K)} {R : ι → ρ → Sl X.K} {Pi : ι → ρ → List (Sl X.K)} {as : List (ArgM X.K)} {k : Nat} {f : Addr} {fd : FuncData} {ps : List Str} {n : Str}
theorem EvX.call {W : WX} (G : FnOk X.prog X.w X.K X.mg X.base (L2N.CX X.prog X.w) k f fd ps (spF Γ0 m γ0 R Pi (xrE (K := X.K)))) (hr : Room k X.A) (i : ι) (tk : L2N.Takes X W) (hm : X.mg n = some (.ref f)) (hk : PySem.W.keepIn X.K (.ref f) = true) (hb : Binds X.K fd ps [])
    (ha : EvH X Γ (e :: es) (as.map fun a => (a.S, a.φ))) (hA : ArgsOk as) (h0 : as.map ArgM.s = Γ0 i) {o : ρ ⊕ Er} (hd : retX (m i) = some o) (hR : ∀ r, NoB (R i r)) (hg : Gl X n := by rfl)
    (hdb : (n == ("__debug__" : Str)) = false := by decide) (he : starEach (e :: es) X.env = (false, eval e X.env) :: starEach es X.env := by rfl) (hpl : (backTo pos (starEach es X.env)).any (·.1) = false := by rfl) :
    EvX X Γ (.Call (.Name n p1) (e :: es) [] pos) (R i) (some o) (xrE (K := X.K)) W :=
  PE.imp (pe_callS (E := WE W) G hr hg hm hk hb (L2N.passAt tk) ha hdb he hpl) fun σ H Q ⟨B, F, As, ok, o', eo, q⟩ => by
    cases eo
    refine ⟨B, F, As, ok, fun vs H1 s1 hs => ?_⟩
    have okF := ok.freeze s1
    have fr1 : Fr F As H (res H1 (supp B F H .fz)) As H1 := Fr.pure s1 (fun b o h => res_some.mpr ⟨.inr (by rw [h]; simp), s1 _ _ (ok.sf _ _ h)⟩) fun b hb => by
      have z : supp B F H .fz b := Classical.byContradiction fun z => hb (res_none z)
      exact z.elim .inr .inl
    cases hmi : m i with
    | none => rw [hmi] at hd; cases hd
    | some fl =>
      rw [hmi] at hd
      have start : Ok H1 (res H1 (supp B F H .fz)) (Γ0 i) (as.map fun _ => []) (vs.map some) H1 := by
        rw [← h0]
        exact ⟨mt_args hA hs, Same.refl _, res_same, by rw [flat_nils]; exact List.nodup_nil, fun a z => (by rw [flat_nils] at z; cases z), fun a z => (by rw [flat_nils] at z; cases z)⟩
      cases fl with
      | nx s => cases hd
      | bk s => cases hd
      | ct s => cases hd
      | rt r =>
        cases hd
        exact call_core (xr := xrE (K := X.K)) (γ := γ0) (Pi := Pi) (R := R) (Γ0 := Γ0) hA h0 hmi (hR r) ok (fun v H' A F' a1 a2 a3 a4 a5 a6 a7 => by
          refine q v A F' As H' (Ok.cons ⟨ok.mt.fr a2 (ok.eqs a1), ok.sb.trans a1, a3, ok.nd, fun a ha => ?_, ok.fb⟩ a7 a6 fun a ha => ⟨fun z => ok.mt.lv a z (a5 a ha).1, (a5 a ha).2, ok.sb.free (a5 a ha).1⟩) ⟨fun b o h _ => a1 _ _ h, a2, fun b hb => ?_, fun b hb => .inr (a4 b hb)⟩
          · cases e : F' a with
            | none => rfl
            | some o =>
              rcases a4 a (by rw [e]; simp) with z | z
              · exact absurd (ok.ff a ha) z
              · exact absurd z (ok.mt.lv a ha)
          · rw [List.flatten_cons] at hb
            exact (List.mem_append.mp hb).elim (fun z => .inr (a5 b z).1) .inl) vs H1 s1 hs
      | xc e =>
        cases hd
        refine ⟨i, H1, _, _, start, .xc e, hmi, fun cls d σ' F' As' H' hx sF' fr => ?_⟩
        have s2 : Same H1 H' := fun b o h => fr.keep b o h (by rw [flat_nils]; simp)
        have sH := s1.trans s2
        have ok2 := ok.freeze sH
        have up : Same F' (res H' (supp B F H .fz)) := fun b o h => res_some.mpr ⟨?_, sF' _ _ h⟩
        · exact q cls d _ H' ⟨hx.1, hx.2.mono up⟩ ok2 (Fr.pure sH (fun b o h => res_some.mpr ⟨.inr (by rw [h]; simp), sH _ _ (ok.sf _ _ h)⟩) fun b hb => by
            have z : supp B F H .fz b := Classical.byContradiction fun z => hb (res_none z)
            exact z.elim .inr .inl)
        · rcases fr.nF b (by rw [h]; simp) with z | z | z
          · rw [flat_nils] at z; cases z
          · exact Classical.byContradiction fun y => z (res_none y)
          · exact .inl (s1.free z)
end
def exS {K : Frag} (a : Addr) (d : Option Addr) (e : Er) : Sl K := ⟨fun _ F _ A sv => A = [] ∧ sv = some (.ref a) ∧ XF K F d e.fs, fun ⟨e, e2, h⟩ s _ => ⟨e, e2, h.mono s⟩, fun h a ha => by rw [h.1] at ha; cases ha⟩
abbrev ESu {K : Frag} {β ρ ε : Type} (E : Be K β ρ ε) : Be K Empty ρ Empty := { δ := fun s => s.elim, R := E.R, Pi := E.Pi, xr := fun e => e.elim, W := fun _ _ _ _ => False }
end
def isE (n c : Str) : Bool := n == c || c == "MapError" || c == "ValueError"
structure ExF (K : Frag) (mg : Str → Option Value) (ns cs os : List Str) : Prop where
  X : ∀ n ∈ ns, ExcC K (exC K n)
  I : ∀ n ∈ ns, ∀ c ∈ cs, PySem.W.kitOne K (.ref (exC K n)) (.ref (exC K c)) = some (isE n c)
  V : ∀ n ∈ ns, PySem.W.kitOne K (.ref (exC K n)) (.type "ValueError") = some true
  M : ∀ n ∈ ns, ∀ c ∈ os, PySem.W.exmOne K (.ref (exC K n)) (.ref (exC K c)) = some (isE n c)
  g : ∀ c ∈ cs ++ os, mg c = some (.ref (exC K c))
def ExAt (X : Cx) (a : Addr) (oe : Obj) : Prop := ∀ (pins : List (Addr × Obj)) (σ : St) (H : Hp) (s : Shared), Inv X pins σ H s → s.heap.get? a = some oe
theorem ExAt.suite {X : Cx} {a : Addr} {oe : Obj} {pn : List (Addr × Obj)} : ExAt (X.suite a ((a, oe) :: pn)) a oe := fun pins σ H s I => (I.pin (a, oe) (List.mem_append.mpr (.inl List.mem_cons_self))).1
theorem ExAt.base {X : Cx} {a : Addr} {oe : Obj} (h : X.base.get? a = some oe) : ExAt X a oe := fun pins σ H s I => (I.bs a oe h).1
section
variable {X : Cx} {a D : Addr} {oe : Obj}
def XD (H : Hp) (d : Option Addr) : Prop := d = none ∨ ∃ dd us, d = some dd ∧ H dd = some (.xd us)
theorem XF.xd {K : Frag} {F H : Hp} {d : Option Addr} {fs : List (Str × Fv)} (h : XF K F d fs) (s : Same F H) : XD H d := by
  cases fs with
  | nil => exact .inl (h.1 rfl)
  | cons f fs =>
    obtain ⟨dd, us, e, h1, _⟩ := h.2 (by simp)
    exact .inr ⟨dd, us, e, s _ _ h1⟩
theorem inst_at {d : Option Addr} (h : ExAt X a oe) (hz : Zc (.ref D) d oe) (hf : ∃ vs, oe.data = .fields vs) {pins : List (Addr × Obj)} {σ : St} {H : Hp} {s : Shared} (I : Inv X pins σ H s) (hd : XD H d) : ∃ od, PySem.W.InstAt s.heap a oe D od := by
  have hg := h pins σ H s I
  obtain ⟨vs, hv⟩ := hf
  obtain ⟨oc, od, oda, osl⟩ := oe
  obtain ⟨h1, h2⟩ := hz
  dsimp only at h1 h2 hv
  subst h1 h2 hv
  rcases hd with rfl | ⟨dd, us, rfl, hx⟩
  · exact ⟨none, hg, rfl, rfl, trivial⟩
  · have ho : ObjOk X.prog X.w H s.heap dd (.xd us) := I.hok dd _ hx
    obtain ⟨mA, hns, _⟩ := ho
    obtain ⟨o, h3, _⟩ := lookIn_ns hns
    exact ⟨some o, hg, rfl, rfl, h3⟩
theorem kitx_er {K : Frag} {x D : Addr} {ox : Obj} {od : Option Obj} (C : ExcC K D) : PySem.W.KitX K (.ref x) (.ref D) (fun h => PySem.W.InstAt h x ox D od) :=
  PySem.W.kitx_exc (by obtain ⟨cd, hc, _⟩ := PySem.W.any_some C.hd; rw [hc]; rfl) C.hg C.hk C.hs C.ha C.hn C.ht C.hm
theorem cr_isE {d : Option Addr} (C : ExcC X.K D) (h : ExAt X a oe) (hz : Zc (.ref D) d oe) (hf : ∃ vs, oe.data = .fields vs) : CallR X (.builtin "isinstance") (fun xs H Q => ∃ (c : V) (cv : Value) (b : Bool), xs = [.ref a, c] ∧ XD H d ∧ ClsV c cv ∧ PySem.W.kitOne X.K (.ref D) cv = some b ∧ Q (.bl b) H) := by
  intro pins s σ H xs us Q I r hh
  obtain ⟨c, cv, b, rfl, hx, hcv, e, q⟩ := hh
  obtain ⟨u1, u2, rfl, r1, r2⟩ := vals2 r
  cases (show u1 = Value.ref a from r1)
  have e2 := hcv.eq r2
  subst e2
  obtain ⟨od, J⟩ := inst_at h hz hf I hx
  exact PySem.W.kia_one (kitx_er C) I.kIn J e (fun z => nomatch z) fun tk => ⟨.bl b, H, I.tok tk, rfl, q⟩
variable {Γ : List (Sl X.K)} {S T : Sup} {pos p1 p2 p3 : Pos} {n m : Str} {d : Option Addr} {e : Er} {b : Bool} {c : V} {cv : Value} {tc : TE} {ec : Expr}
theorem pe_exn (i : Nat) (hΓ : Γ[i]? = some (exS a d e)) (hN : X.N[i]? = some n) (hv : Vis X.env.scope n) (hd : (n == ("__debug__" : Str)) = false) (hcd : (n == ("__classdict__" : Str)) = false) :
    PE X (.Name n pos) (fun σ H Q => ∃ B F As, Ok B F Γ As σ H ∧ (XF X.K F d e.fs → Same F H → Q (.ref a) H)) := PE.imp (pe_var hN hv hd hcd) fun σ H Q ⟨B, F, As, ok, q⟩ => by
  obtain ⟨A, v, hA, hs, eA, ev, hx⟩ := ok.mt.get hΓ
  exact ⟨.ref a, by rw [hs, ev], q hx ok.sf⟩
theorem Ev.isE (i : Nat) (C : ExcC X.K D) (h : ExAt X a oe) (hz : Zc (.ref D) d oe) (hf : ∃ vs, oe.data = .fields vs) (hm : X.mg "isinstance" = none) (hc : PE X ec (fun σ H Q => Q c H)) (hcv : ClsV c cv) (hk : PySem.W.kitOne X.K (.ref D) cv = some b)
    (hΓ : Γ[i]? = some (exS a d e) := by rfl) (hN : X.N[i]? = some n := by rfl) (hv : Vis X.env.scope n := by first | exact Or.inl rfl | exact Or.inr (Or.inl rfl) | exact Or.inr (Or.inr rfl)) (hd : (n == ("__debug__" : Str)) = false := by decide) (hcd : (n == ("__classdict__" : Str)) = false := by decide) (hg : Gl X "isinstance" := by rfl)
    (h3 : starEach [.Name n p2, ec] X.env = (false, eval (.Name n p2) X.env) :: starEach [ec] X.env := by rfl) (h3' : starEach [ec] X.env = (false, eval ec X.env) :: starEach [] X.env := by rfl) (h4 : Pl1 X pos ec := by rfl) :
    Ev X Γ (.Call (.Name "isinstance" p1) [.Name n p2, ec] [] pos) S (va b) :=
  PE.imp (pe_callB (cr_isE C h hz hf) hg hm (by decide +kernel) (pa_cons (pe_exn i hΓ hN hv hd hcd) (pa_cons hc pa_nil h3') h3) (by decide) (by decide) h3 h4) fun σ H Q ⟨B, F, As, ok, q⟩ => ⟨B, F, As, ok, fun hx sf => ⟨c, cv, b, rfl, hx.xd sf, hcv, hk, q _ H (Same.refl _) rfl⟩⟩
end
theorem exC_of {K : Frag} {n : Str} {C : Addr} (a : PySem.W.nsIn K mainGlobals n = some (some (.ref C))) : exC K n = C := by unfold exC; rw [a]
theorem all0 {α : Type} {p : α → Prop} : ∀ x ∈ ([] : List α), p x := fun _ h => nomatch h
theorem all1 {α : Type} {p : α → Prop} {a : α} {l : List α} (h : p a) (r : ∀ x ∈ l, p x) : ∀ x ∈ a :: l, p x := fun x hx => by
  rcases List.mem_cons.mp hx with rfl | z
  · exact h
  · exact r x z
open PySem PySem.Spec PyProof.Rows L2
open Rp (rp)
def endX {ν ρ ε : Type} : Option (Fl ν Empty ρ ε) → Option (ν ⊕ ε)
  | some (.nx s) => some (.inl s)
  | some (.xc e) => some (.inr e)
  | _ => none
section
variable {X : Cx} {Γ Γ' : List (Sl X.K)} {e : Expr} {es : List Expr} {pos p1 p2 p3 : Pos} {ν ν' β ρ ε : Type} {γ : ν → List (Sl X.K)} {rest ss : List Stmt}
theorem EvX.m {ρ0 : Type} {R : ρ0 → Sl X.K} {r : ρ0} {xr : Er → Value → Option Addr → Hp → Prop} {W : WX} {mo : Option (ρ0 ⊕ Er)} (h : EvX X Γ e R mo xr W) (hm : mo = some (.inl r)) : EvM X Γ e (R r) Γ :=
  PE.imp h fun σ H Q ⟨B, F, As, ok, q⟩ => ⟨B, F, As, ok, .inl r, hm, q⟩
variable {E : Be X.K β ρ Er} {ρ0 : Type} {R : ρ0 → Sl X.K} {x : Er} {mo : Option (ρ0 ⊕ Er)}
variable {ι : Type} {Γ0 : ι → List (Sl X.K)} {m : ι → Option (Fl ν Empty ρ0 Er)} {γ0 : ι → ν → List (Sl X.K)} {R1 : ι → ρ0 → Sl X.K} {Pi : ι → ρ0 → List (Sl X.K)} {as : List (ArgM X.K)} {k : Nat} {f : Addr} {fd : FuncData} {ps : List Str} {n : Str}
end
section
variable {X : Cx} {D : Addr} {e : Expr} {es : List Expr} {ta : TA} {b n : Str} {p1 p2 p3 pos : Pos}
structure BaseI (K : Frag) (mg : Str → Option Value) (n : Str) : Prop where
  s : PySem.W.specialIn K (.ref (exC K n)) "__getattribute__" = some (some (.builtin "type.__getattribute__"))
  r : PySem.W.readsIn K (exC K n) (.type "type") = true
  f : PySem.W.findCls K (.ref (exC K n)) (.type "type") "__init__" = some (.val (.builtin "ValueError.__init__"))
  g : mg n = some (.ref (exC K n))
theorem pe_baseinit {pl : Sem Bool} (T : BaseI X.K X.mg n) (hg : Gl X n) (ha : PA X (e :: es) ta)
    (hc : eval (.Call (.Attribute (.Name n p1) "__init__" p2) (e :: es) [] pos) X.env = (do
      let ov ← eval (.Name n p1) X.env
      standAt p2.atName
      let (f, first) ← holding [ov] (getMethod ov "__init__" pl)
      callWith pos f first (backTo pos (starEach (e :: es) X.env)) (backToKw pos (keywordEach [] X.env))) := by rfl)
    (hdb : (n == ("__debug__" : Str)) = false := by decide) (he : starEach (e :: es) X.env = (false, eval e X.env) :: starEach es X.env := by rfl) (hpl : (backTo pos (starEach es X.env)).any (·.1) = false := by rfl) :
    PE X (.Call (.Attribute (.Name n p1) "__init__" p2) (e :: es) [] pos) (tVeI X.K ta) := by
  refine ⟨fun pins s σ H Q I h => PySem.W.methodCall_KW (ld_glob I hg T.g ?_ hdb) hc⟩
  refine PySem.W.method_cls I.kIn T.s (PySem.W.cls_value I.kIn T.r T.f (by decide +kernel) ?_)
  show wpAny _ _ (callWith pos (Value.builtin "ValueError.__init__") [] (backTo pos (starEach (e :: es) X.env)) []) _ _ _
  refine PyProof.Rows.callWith_method1 (thn (ha.run pos pins _ σ H _ (I.tok _) h) fun us s1 ⟨vs, H1, I1, rs, a, C, ws, ev, hl, T1, ea, q⟩ => ?_) he hpl
  subst ev
  match us, rs with
  | u :: ur, .cons r0 rr =>
    cases (show u = Value.ref a from r0)
    refine oinit_ok T1 I1 ea ?_ fun s' J => ⟨.non, H1, J, rfl, q⟩
    have := Paired.length rr
    have := sizeLine_eq
    omega
end
def spI1 (K : Frag) (f : Str) : Sp := fun vs H Q _ => ∃ a C x, vs = [.ref a, x] ∧ OexC K C ∧ PySem.W.findIn K (.ref C) f = some none ∧ H a = some (exo a C none) ∧ ∀ d, H d = none → d ≠ a → Q .non (upd (upd H d (exd d [(f, x)])) a (exo a C (some d)))
def spI2 (K : Frag) (f g : Str) : Sp := fun vs H Q _ => ∃ a C x y, vs = [.ref a, x, y] ∧ OexC K C ∧ PySem.W.findIn K (.ref C) f = some none ∧ PySem.W.findIn K (.ref C) g = some none ∧ H a = some (exo a C none) ∧
  ∀ d, H d = none → d ≠ a → Q .non (upd (upd (upd H d (exd d [(f, x)])) a (exo a C (some d))) d (exd d [(g, y), (f, x)]))
structure ErF (K : Frag) (mg : Str → Option Value) (n : Str) (fI : Addr) (fs : List Str) : Prop where
  o : OexC K (exC K n)
  i : PySem.W.findIn K (.ref (exC K n)) "__init__" = some (some (.ref fI))
  t : PySem.W.typeIn K (.ref fI) = some (.type "function")
  g : mg n = some (.ref (exC K n))
  f : ∀ x ∈ fs, PySem.W.findIn K (.ref (exC K n)) x = some none
def erF (nms : List Str) (e : Er) (f : Str) : Option Fv := if e.nm ∈ nms then e.fs.lookup f else none
def Fv.i : Fv → Option Int
  | .int i => some i
  | _ => none
def Fv.p : Fv → Option (Int × Int)
  | .pr a b => some (a, b)
  | _ => none
def Fv.t : Fv → Option (T3 Int Int Int)
  | .t3 a b c => some ⟨a, b, c⟩
  | _ => none
def Fv.s : Fv → Option (T3 Str Int Int)
  | .ft a b c => some ⟨a, b, c⟩
  | _ => none
class FvG {α : Type} [Rp α] (g : Fv → Option α) : Prop where
  ok : ∀ {K : Frag} {F : Hp} {v : V} {y : Fv} {x : α}, g y = some x → rpFv K F v y → rp K F v x
instance : FvG Fv.i := ⟨fun {K F v y x} h r => by cases y <;> cases h; exact r⟩
instance : FvG Fv.p := ⟨fun {K F v y x} h r => by cases y <;> cases h; exact r⟩
instance : FvG Fv.t := ⟨fun {K F v y x} h r => by cases y <;> cases h; exact r⟩
instance : FvG Fv.s := ⟨fun {K F v y x} h r => by cases y <;> cases h; exact r⟩
theorem xf_of {K : Frag} {D : Addr} (C : ExcC K D) : XfC K D := ⟨C.hg, C.hk, C.hs, C.hd⟩
open PySem PySem.Spec PyProof.Rows L2
open Rp (rp)
instance : Fl1 Bool := ⟨fun h => by cases h; rfl, fun {K H H' v w x y} p1 p2 => by cases p1; cases p2; cases x <;> cases y <;> rfl⟩
inductive Av | it
instance : Rp Av := { rp := fun _ _ _ _ => True, mono := fun _ h => h }
open PySem PySem.Spec PyProof.Rows L2
open Rp (rp)
def tEvTM {K : Frag} (Γ : List (Sl K)) (b : Bool) (Γ' : List (Sl K)) : TT := fun σ H Q => ∃ B F As, Ok B F Γ As σ H ∧ ∀ F' As' H', Ok B F' Γ' As' σ H' → Fr F As H F' As' H' → Q b H'
def EvTM (X : Cx) (Γ : List (Sl X.K)) (e : Expr) (b : Bool) (Γ' : List (Sl X.K)) : Prop := PT X e (tEvTM Γ b Γ')
section
variable {X : Cx} {Γ Γ' Γ2 : List (Sl X.K)} {a b c e : Expr} {S T : Sup} {pos p1 p2 : Pos} {ν ν' β ρ ε τ : Type} {E : Be X.K β ρ ε} {γ : ν → List (Sl X.K)} {γ' : ν' → List (Sl X.K)} {rest bA bB : List Stmt} {p : Bool}
theorem EvTM.cast {γt : τ → List (Sl X.K)} {z z' : Bool × τ} (h : EvTM X Γ e z'.1 (γt z'.2)) (k : z' = z) : EvTM X Γ e z.1 (γt z.2) := k ▸ h
end
def encOP {α β : Type} [Rp α] [DecidableEq α] [De α] [Rp β] [DecidableEq β] [De β] : Option (α × β) → PyData
  | .none => .none
  | .some xs => De.enc xs
instance {α β : Type} [Rp α] [DecidableEq α] [De α] [Rp β] [DecidableEq β] [De β] : De (Option (α × β)) where
  enc := encOP
  n := De.n (α × β) + 1
  dp := fun {K H v x} h => by
    cases x with
    | none => cases h; exact .non
    | some xs => exact De.dp h.1
  lay := fun x => by
    cases x with
    | none => rfl
    | some xs => exact De.lay xs
  dep := fun x => by
    cases x with
    | none => simp [encOP, PyData.depth]
    | some xs => exact Nat.le_succ_of_le (De.dep xs)
  eqv := fun x y => by
    cases x with
    | none => cases y with
      | none => rfl
      | some j =>
        show PyData.eqv .none (.tuple _) = _
        simp [PyData.eqv]
    | some i => cases y with
      | none =>
        show PyData.eqv (.tuple _) .none = _
        simp [PyData.eqv]
      | some j =>
        show PyData.eqv (De.enc i) (De.enc j) = _
        rw [De.eqv]; simp
end M
set_option Elab.async false
set_option linter.all false
set_option maxRecDepth 100000
set_option maxHeartbeats 4000000
namespace PySem
open PySem PySem.Spec PyProof.Rows
structure ZSt (z TI TO i1 i2 l1 l2 N0 : Addr) (xs ys : Array Value) (i : Nat) (h : Heap) : Prop where
  gI : IsPair h TI (.ref i1) (.ref i2)
  g1 : h.IsListIter i1 l1 i
  g2 : h.IsListIter i2 l2 i
  k1 : h.IsList l1 xs
  k2 : h.IsList l2 ys
  gz : (IsZip h z TI TO .none ∧ ∃ a b, IsPair h TO a b) ∨ ∃ T f oT, IsZipHeld h z TI TO T f ∧ h.get? T = some oT ∧ N0 ≤ T
structure Tps (N0 : Addr) (xs ys : Array Value) (i : Nat) (acc : Array Value) (Ts : List Addr) (h : Heap) : Prop where
  len : Ts.length = i
  nd : Ts.Nodup
  eq : acc = (Ts.map Value.ref).toArray
  ge : ∀ T ∈ Ts, N0 ≤ T
  at_ : ∀ (j : Nat) T, Ts[j]? = some T → ∃ x y, xs[j]? = some x ∧ ys[j]? = some y ∧ IsPair h T x y
theorem Tps.keep {N0 : Addr} {xs ys acc : Array Value} {i : Nat} {Ts : List Addr} {h h' : Heap} (t : Tps N0 xs ys i acc Ts h) (k : ∀ b o, N0 ≤ b → h.get? b = some o → h'.get? b = some o) : Tps N0 xs ys i acc Ts h' :=
  ⟨t.len, t.nd, t.eq, t.ge, fun j T hj => let ⟨x, y, a, b, c⟩ := t.at_ j T hj; ⟨x, y, a, b, k _ _ (t.ge T (List.mem_of_getElem? hj)) c⟩⟩
theorem Tps.push {N0 n : Addr} {xs ys acc : Array Value} {i : Nat} {Ts : List Addr} {h : Heap} {x y : Value} (t : Tps N0 xs ys i acc Ts h) (hn : N0 ≤ n) (hx : xs[i]? = some x) (hy : ys[i]? = some y) (hp : IsPair h n x y) (hnew : n ∉ Ts) : Tps N0 xs ys (i + 1) (acc.push (.ref n)) (Ts ++ [n]) h := by
  refine ⟨by rw [List.length_append, t.len]; rfl, ?_, by rw [t.eq, List.map_append]; simp, fun T hT => ?_, fun j T hj => ?_⟩
  · rw [List.nodup_append]
    exact ⟨t.nd, by simp, fun a ha b hb e => hnew (by rw [← List.mem_singleton.mp hb, ← e]; exact ha)⟩
  · rcases List.mem_append.mp hT with h | h
    · exact t.ge T h
    · rw [List.mem_singleton.mp h]; exact hn
  · by_cases e : j < Ts.length
    · rw [List.getElem?_append_left e] at hj
      exact t.at_ j T hj
    · have hl := (List.getElem?_eq_some_iff.mp hj).1
      rw [List.length_append] at hl
      have e2 : j = Ts.length := by simp at hl; omega
      rw [e2, List.getElem?_append_right (Nat.le_refl _)] at hj
      simp at hj
      subst hj
      rw [e2, t.len]
      exact ⟨x, y, hx, hy, hp⟩
end PySem
set_option Elab.async false
set_option linter.all false
set_option maxRecDepth 100000
set_option maxHeartbeats 400000
set_option Elab.async false
set_option linter.all false
set_option maxRecDepth 100000
set_option maxHeartbeats 4000000
namespace M
open PySem PySem.Spec PyProof.Rows L2
open Rp (rp)
structure Hd where
  c : Value
  i : Option Nat
  ts : Addr → Value → Option Addr → TS
def goneE (i : Nat) (D : Ends) : Ends := { nx := fun σ H => D.nx (σ.set i none) H, rt := D.rt, bk := fun σ H => D.bk (σ.set i none) H, ct := fun σ H => D.ct (σ.set i none) H }
def Hd.hit (h : Hd) (a : Addr) (cls : Value) (d : Option Addr) (D : Ends) (σ : St) (H : Hp) : Prop := match h.i with
  | none => h.ts a cls d D σ H
  | some i => h.ts a cls d (goneE i D) (σ.set i (some (.ref a))) H
def wHds (K : Frag) (Wout : WX) (D : Ends) : List Hd → WX
  | [] => Wout
  | h :: r => fun cls d σ H => ∃ b, PySem.W.exmOne K cls h.c = some b ∧ (b = true → ∀ a, H a = none → h.hit a cls d D σ H) ∧ (b = false → wHds K Wout D r cls d σ H)
inductive HdsG (X : Cx) : List ExceptHandler → List Hd → Prop
  | nil : HdsG X [] []
  | any {x : Str} {c : Value} {ts : Addr → Value → Option Addr → TS} {b₀ : Stmt} {suite : List Stmt} {np pos' : Pos} {hds : List ExceptHandler} {l : List Hd} (hc : Names X x c)
      (hsu : ∀ (a : Addr) (oe : Obj) (cls : Value) (d : Option Addr) (pn : List (Addr × Obj)), L2N.Zn cls d oe → (∃ vs, oe.data = .fields vs) → PSs (X.suite a ((a, oe) :: pn)) (b₀ :: suite) (ts a cls d)) (r : HdsG X hds l) :
      HdsG X (.ExceptHandler (some (.Name x np)) none (b₀ :: suite) pos' :: hds) (⟨c, none, ts⟩ :: l)
  | as {x n : Str} {i : Nat} {c : Value} {ts : Addr → Value → Option Addr → TS} {b₀ : Stmt} {suite : List Stmt} {np pos' : Pos} {hds : List ExceptHandler} {l : List Hd} (hc : Names X x c) (hi : X.N[i]? = some n) (hln : X.env.kindOf n = some .local)
      (hsu : ∀ (a : Addr) (oe : Obj) (cls : Value) (d : Option Addr) (pn : List (Addr × Obj)), L2N.Zn cls d oe → (∃ vs, oe.data = .fields vs) → PSs (X.suite a ((a, oe) :: pn)) (b₀ :: suite) (ts a cls d)) (r : HdsG X hds l) :
      HdsG X (.ExceptHandler (some (.Name x np)) (some n) (b₀ :: suite) pos' :: hds) (⟨c, some i, ts⟩ :: l)
def tBx {K : Frag} {ρ0 : Type} (Γ : List (Sl K)) (γb : ρ0 → List (Sl K)) (mo : Option (ρ0 ⊕ Er)) (xr : Er → Value → Option Addr → Hp → Prop) (W : WX) : TS := fun D σ H => ∃ B F As, Ok B F Γ As σ H ∧ ∃ o, mo = some o ∧ match o with
  | .inl r => ∀ F' As' σ' H', Ok B F' (γb r) As' σ' H' → Fr F As H F' As' H' → D.nx σ' H'
  | .inr e => ∀ cls d F' As' σ' H', xr e cls d F' → Ok B F' Γ As' σ' H' → Fr F As H F' As' H' → W cls d σ' H'
def Bx {ρ0 : Type} (X : Cx) (Γ : List (Sl X.K)) (γb : ρ0 → List (Sl X.K)) (ss : List Stmt) (mo : Option (ρ0 ⊕ Er)) (W : WX) : Prop := PSs X ss (tBx Γ γb mo (xrE (K := X.K)) W)
def hdD {ν' ρ : Type} (e : Er) : List (Str × (Er → Option (Fl ν' Empty ρ Empty))) → Option (Fl ν' Empty ρ Empty)
  | [] => none
  | h :: r => if isE e.nm h.1 = true then h.2 e else hdD e r
section
variable {X : Cx} {Γ : List (Sl X.K)} {e c : Expr} {pos p2 : Pos} {ν ν' β ρ ε ρ0 : Type} {W : WX}
theorem Bx.ite {bA bB : List Stmt} {p : Bool} {γb : ρ0 → List (Sl X.K)} {mA mB : Option (ρ0 ⊕ Er)} (hc : EvT X Γ c p) (hA : p = true → Bx X Γ γb bA mA W) (hB : p = false → Bx X Γ γb bB mB W) : Bx X Γ γb [.If c bA bB pos] (if p = true then mA else mB) W := by
  have go : ∀ {mm : Option (ρ0 ⊕ Er)} {D : Ends} {σ : St} {H H1 : Hp} {B F : Hp} {As : List (List Addr)} {o : ρ0 ⊕ Er}, Ok B F Γ As σ H → Same H H1 → mm = some o → (match o with
      | .inl r => ∀ F' As' σ' H', Ok B F' (γb r) As' σ' H' → Fr F As H F' As' H' → D.nx σ' H'
      | .inr e => ∀ cls d F' As' σ' H', xrE e cls d F' → Ok B F' Γ As' σ' H' → Fr F As H F' As' H' → W cls d σ' H') → tBx Γ γb mm (xrE (K := X.K)) W D σ H1 := fun {mm D σ H H1 B F As o} ok sH em q => by
    have fr0 : Fr F As H F As H1 := Fr.pure sH (Same.refl F) fun b hb => .inl hb
    refine ⟨B, F, As, ok.grow sH, o, em, ?_⟩
    cases o with
    | inl r => exact fun F' As' σ' H' ok' fr => q F' As' σ' H' ok' (fr0.trans fr)
    | inr e => exact fun cls d F' As' σ' H' hx ok' fr => q cls d F' As' σ' H' hx ok' (fr0.trans fr)
  cases p with
  | true =>
    refine ⟨fun pins s σ H D I ⟨B, F, As, ok, o, em, q⟩ => ?_⟩
    refine (pss_one (ps_if (tc := tEvT Γ true) (u := tNever) hc (hA rfl) pss_never)).run pins s σ H D I ?_
    exact ⟨B, F, As, ok, fun H1 sH => iteT (go ok sH em q)⟩
  | false =>
    refine ⟨fun pins s σ H D I ⟨B, F, As, ok, o, em, q⟩ => ?_⟩
    refine (pss_one (ps_if (tc := tEvT Γ false) (t := tNever) hc pss_never (hB rfl))).run pins s σ H D I ?_
    exact ⟨B, F, As, ok, fun H1 sH => iteF (go ok sH em q)⟩
end
section
variable {X : Cx} {ν ν' β ρ ε ρ0 : Type}
inductive HdB (X : Cx) {ν' β ρ ε : Type} (E : Be X.K β ρ ε) (ns : List Str) (Γ : List (Sl X.K)) (γ' : ν' → List (Sl X.K)) : List ExceptHandler → List (Str × (Er → Option (Fl ν' Empty ρ Empty))) → Prop
  | nil : HdB X E ns Γ γ' [] []
  | any {x c : Str} {ms : Er → Option (Fl ν' Empty ρ Empty)} {b₀ : Stmt} {suite : List Stmt} {np pos' : Pos} {hds : List ExceptHandler} {l : List (Str × (Er → Option (Fl ν' Empty ρ Empty)))} (hc : Names X x (.ref (exC X.K c))) (hex : ∀ n ∈ ns, PySem.W.exmOne X.K (.ref (exC X.K n)) (.ref (exC X.K c)) = some (isE n c))
      (hsu : ∀ (a : Addr) (oe : Obj) (d : Option Addr) (pn : List (Addr × Obj)) (e : Er), e.nm ∈ ns → isE e.nm c = true → L2N.Zn (.ref (exC X.K e.nm)) d oe → (∃ vs, oe.data = .fields vs) → Bk (X.suite a ((a, oe) :: pn)) (ESu E) γ' Γ (b₀ :: suite) (ms e)) (r : HdB X E ns Γ γ' hds l) :
      HdB X E ns Γ γ' (.ExceptHandler (some (.Name x np)) none (b₀ :: suite) pos' :: hds) ((c, ms) :: l)
  | as (i : Nat) {x c n : Str} {ms : Er → Option (Fl ν' Empty ρ Empty)} {b₀ : Stmt} {suite : List Stmt} {np pos' : Pos} {hds : List ExceptHandler} {l : List (Str × (Er → Option (Fl ν' Empty ρ Empty)))} (hc : Names X x (.ref (exC X.K c))) (hex : ∀ n ∈ ns, PySem.W.exmOne X.K (.ref (exC X.K n)) (.ref (exC X.K c)) = some (isE n c))
      (hsu : ∀ (a : Addr) (oe : Obj) (d : Option Addr) (pn : List (Addr × Obj)) (e : Er), e.nm ∈ ns → isE e.nm c = true → L2N.Zn (.ref (exC X.K e.nm)) d oe → (∃ vs, oe.data = .fields vs) → Bk (X.suite a ((a, oe) :: pn)) (ESu E) γ' (Γ.set i (exS a d e)) (b₀ :: suite) (ms e)) (r : HdB X E ns Γ γ' hds l)
      (hu : ∀ s, (γ' s).set i un = γ' s := by intro _; rfl) (hi : X.N[i]? = some n := by rfl) (hln : X.env.kindOf n = some .local := by rfl) :
      HdB X E ns Γ γ' (.ExceptHandler (some (.Name x np)) (some n) (b₀ :: suite) pos' :: hds) ((c, ms) :: l)
theorem HdB.hds {E : Be X.K β ρ ε} {ns : List Str} {Γ : List (Sl X.K)} {γ' : ν' → List (Sl X.K)} {hds : List ExceptHandler} {l : List (Str × (Er → Option (Fl ν' Empty ρ Empty)))} (h : HdB X E ns Γ γ' hds l) : ∃ l' : List Hd, HdsG X hds l' ∧
    ∀ (e : Er) (fl : Fl ν' Empty ρ Empty), e.nm ∈ ns → hdD e l = some fl → ∀ (Wout : WX) (D : Ends) (cls : Value) (d : Option Addr) (B F : Hp) (As : List (List Addr)) (σ : St) (H : Hp), xrE (K := X.K) e cls d F → Ok B F Γ As σ H → post (ESu E) γ' B F As H D fl → wHds X.K Wout D l' cls d σ H := by
  induction h with
  | nil => exact ⟨[], .nil, fun e fl _ h => by cases h⟩
  | @any x c ms b₀ suite np pos' hds l hc hex hsu r ih =>
    obtain ⟨l', g, k⟩ := ih
    refine ⟨⟨.ref (exC X.K c), none, fun a cls d D σ H => ∃ e : Er, e.nm ∈ ns ∧ isE e.nm c = true ∧ cls = .ref (exC X.K e.nm) ∧ tBk (ESu E) γ' Γ (ms e) D σ H⟩ :: l', .any hc (fun a oe cls d pn hz hfd => ⟨fun pins s σ H D I ⟨e, he, hi, hcls, q⟩ => ?_⟩) g, fun e fl he hd Wout D cls d B F As σ H hx ok q => ?_⟩
    · subst hcls
      exact (hsu a oe d pn e he hi hz hfd).run pins s σ H D I q
    · have hx1 := hx.1
      refine ⟨isE e.nm c, by rw [hx1]; exact hex _ he, fun hb a ha => ?_, fun hb => ?_⟩
      · have hd : (if isE e.nm c = true then ms e else hdD e l) = some fl := hd
        rw [if_pos hb] at hd
        exact ⟨e, he, hb, hx1, B, F, As, ok, fl, hd, q⟩
      · have hd : (if isE e.nm c = true then ms e else hdD e l) = some fl := hd
        rw [if_neg (by simp [hb])] at hd
        exact k e fl he hd Wout D cls d B F As σ H hx ok q
  | @as i x c n ms b₀ suite np pos' hds l hc hex hsu r hu hi hln ih =>
    obtain ⟨l', g, k⟩ := ih
    refine ⟨⟨.ref (exC X.K c), some i, fun a cls d D σ H => ∃ e : Er, e.nm ∈ ns ∧ isE e.nm c = true ∧ cls = .ref (exC X.K e.nm) ∧ tBk (ESu E) γ' (Γ.set i (exS a d e)) (ms e) D σ H⟩ :: l', .as hc hi hln (fun a oe cls d pn hz hfd => ⟨fun pins s σ H D I ⟨e, he, hi, hcls, q⟩ => ?_⟩) g, fun e fl he hd Wout D cls d B F As σ H hx ok q => ?_⟩
    · subst hcls
      exact (hsu a oe d pn e he hi hz hfd).run pins s σ H D I q
    · have hx1 := hx.1
      refine ⟨isE e.nm c, by rw [hx1]; exact hex _ he, fun hb a ha => ?_, fun hb => ?_⟩
      · have hd : (if isE e.nm c = true then ms e else hdD e l) = some fl := hd
        rw [if_pos hb] at hd
        have ok2 := ok.set (s := exS a d e) (A := []) (v := some (.ref a)) i ⟨rfl, rfl, hx.2⟩ List.nodup_nil fun a z => by cases z
        have fr2 : Fr F As H F (As.set i []) H := Fr.refl.sub fun b hb => flat_nil_set hb
        refine ⟨e, he, hb, hx1, B, F, As.set i [], ok2, fl, hd, ?_⟩
        cases fl with
        | nx s =>
          intro F3 As3 σ3 H3 ok3 fr3
          have ok4 := ok3.set (s := un) (A := []) (v := none) i rfl List.nodup_nil fun a z => by cases z
          rw [hu s] at ok4
          exact q F3 _ _ H3 ok4 ((fr2.trans fr3).sub fun b hb => flat_nil_set hb)
        | rt r => exact fun v F3 A As3 σ3 H3 ok3 fr3 => q v F3 A As3 σ3 H3 ok3 (fr2.trans fr3)
        | bk s => exact s.elim
        | ct s => exact s.elim
        | xc s => exact s.elim
      · have hd : (if isE e.nm c = true then ms e else hdD e l) = some fl := hd
        rw [if_neg (by simp [hb])] at hd
        exact k e fl he hd Wout D cls d B F As σ H hx ok q
end
open PySem PySem.Spec PyProof.Rows L2
open Rp (rp)
instance {α β : Type} [Rp α] [Rp β] : Rp (α ⊕ β) := {
  rp := fun K H v x => match x with
    | .inl a => rp K H v a
    | .inr b => rp K H v b
  mono := fun {K F H v x} s h => by cases x <;> exact Rp.mono s h }
section
variable {X : Cx} {Γ : List (Sl X.K)} {e : Expr} {S : Sup} {α β : Type} [Rp α] [Rp β]
theorem Ev.inl {x : α} (h : Ev X Γ e S (va x)) : Ev X Γ e S (va (Sum.inl x : α ⊕ β)) := h
theorem Ev.inr {x : β} (h : Ev X Γ e S (va x)) : Ev X Γ e S (va (Sum.inr x : α ⊕ β)) := h
end
instance : De Unit := { enc := fun _ => .none, n := 1, dp := fun h => by cases h; exact .non, lay := fun _ => rfl, dep := fun _ => by simp [PyData.depth], eqv := fun x y => by simp [PyData.eqv] }
class Dj (α β : Type) [Rp α] [DecidableEq α] [De α] [Rp β] [DecidableEq β] [De β] : Prop where
  l : ∀ (x : α) (y : β), PyData.eqv (De.enc x) (De.enc y) = false
  r : ∀ (x : α) (y : β), PyData.eqv (De.enc y) (De.enc x) = false
instance {α β : Type} [Rp α] [DecidableEq α] [De α] [Rp β] [DecidableEq β] [De β] [Dj α β] : De (α ⊕ β) := {
  enc := fun x => match x with
    | .inl a => De.enc a
    | .inr b => De.enc b
  n := max (De.n α) (De.n β)
  dp := fun {K H v x} h => by cases x <;> exact De.dp h
  lay := fun x => by cases x <;> exact De.lay _
  dep := fun x => by
    cases x with
    | inl a => exact Nat.le_trans (De.dep a) (Nat.le_max_left _ _)
    | inr b => exact Nat.le_trans (De.dep b) (Nat.le_max_right _ _)
  eqv := fun x y => by
    cases x with
    | inl a => cases y with
      | inl c => exact (De.eqv a c).trans (by simp)
      | inr c => exact (Dj.l a c).trans (by simp)
    | inr a => cases y with
      | inl c => exact (Dj.r c a).trans (by simp)
      | inr c => exact (De.eqv a c).trans (by simp) }
section
variable {α β γ δ : Type} [Rp α] [DecidableEq α] [De α] [Rp β] [DecidableEq β] [De β] [Rp γ] [DecidableEq γ] [De γ] [Rp δ] [DecidableEq δ] [De δ]
instance : Dj Unit (List α) := ⟨fun x y => by simp [De.enc, PyData.eqv], fun x y => by simp [De.enc, PyData.eqv]⟩
instance : Dj Unit (α × β) := ⟨fun x y => by simp [De.enc, PyData.eqv], fun x y => by simp [De.enc, PyData.eqv]⟩
instance : Dj Unit (T3 α β γ) := ⟨fun x y => by simp [De.enc, PyData.eqv], fun x y => by simp [De.enc, PyData.eqv]⟩
instance : Dj Unit Int := ⟨fun x y => by simp [De.enc, PyData.eqv], fun x y => by simp [De.enc, PyData.eqv]⟩
instance : Dj (T3 α β γ) (List δ) := ⟨fun x y => by simp [De.enc, PyData.eqv], fun x y => by simp [De.enc, PyData.eqv]⟩
instance : Dj (α × β) (List δ) := ⟨fun x y => by simp [De.enc, PyData.eqv], fun x y => by simp [De.enc, PyData.eqv]⟩
instance : Dj Int (List δ) := ⟨fun x y => by simp [De.enc, PyData.eqv], fun x y => by simp [De.enc, PyData.eqv]⟩
instance : Dj (T3 α β γ) Int := ⟨fun x y => by simp [De.enc, PyData.eqv], fun x y => by simp [De.enc, PyData.eqv]⟩
instance : Dj Int (T3 α β γ) := ⟨fun x y => by simp [De.enc, PyData.eqv], fun x y => by simp [De.enc, PyData.eqv]⟩
instance [Dj α β] [Dj α γ] [Dj β γ] : Dj α (β ⊕ γ) := ⟨fun x y => by
  cases y with
  | inl y => exact Dj.l x y
  | inr y => exact Dj.l x y, fun x y => by
  cases y with
  | inl y => exact Dj.r x y
  | inr y => exact Dj.r x y⟩
end
section
variable {X : Cx} {Γ : List (Sl X.K)} {e : Expr} {pos p1 : Pos} {ρ0 : Type} {R R' : ρ0 → Sl X.K} {mo : Option (ρ0 ⊕ Er)} {xr : Er → Value → Option Addr → Hp → Prop} {W : WX}
theorem EvX.conv (h : EvX X Γ e R mo xr W) (k : ∀ (r : ρ0) (B F H : Hp) (A : List Addr) (sv : Option V), (R r).p B F H A sv → (R' r).p B F H A sv) : EvX X Γ e R' mo xr W :=
  PE.imp h fun σ H Q ⟨B, F, As, ok, o, em, q⟩ => by
    refine ⟨B, F, As, ok, o, em, ?_⟩
    cases o with
    | inl r =>
      intro v A F' As' H' ok' fr
      obtain ⟨h1, h2, h3⟩ := ok'.head
      exact q v A F' As' H' (ok'.tail.cons (k _ _ _ _ _ _ h1) h2 h3) fr
    | inr e => exact q
theorem EvX.frz {α : Type} [Rp α] {w : V → Prop} {mo : Option (List α ⊕ Er)} (h : EvX X Γ e (fun r : List α => oL w r) mo xr W) : EvX X Γ e (fun r : List α => fz r) mo xr W :=
  PE.imp h fun σ H Q ⟨B, F, As, ok, o, em, q⟩ => by
    refine ⟨B, F, As, ok, o, em, ?_⟩
    cases o with
    | inl r =>
      intro v A F' As' H' ok' fr
      obtain ⟨F2, sF, ok2, k⟩ := freeze_at (i := 0) ok' rfl
      have ok2 : Ok B F2 (fz r :: Γ) ([] :: As') (some v :: σ) H' := ok2
      exact q v [] F2 As' H' ok2 (fr.trans ⟨fun _ _ h _ => h, sF, fun b hb => .inl (by rw [List.flatten_cons] at hb ⊢; exact List.mem_append_right _ (by simpa using hb)), fun b hb => (k b hb).imp id .inl⟩)
    | inr e => exact q
end
open PySem PySem.Spec PyProof.Rows L2
open Rp (rp)
instance {κ α : Type} [Rp κ] [DecidableEq κ] [Ky κ] [Rp α] : Rp (Dc κ α) := {
  rp := fun K H v d => ∃ a kvs, v = .ref a ∧ H a = some (Ky.ho (κ := κ) kvs) ∧ Kvs (rp K H) kvs d.l
  mono := fun s ⟨a, kvs, e, h, r⟩ => ⟨a, kvs, e, s _ _ h, r.mono fun _ _ => Rp.mono s⟩ }
theorem EvX.som {α ρ : Type} [Rp α] {X : Cx} {Γ : List (Sl X.K)} {e : Expr} {mo : Option (List α ⊕ Er)} {xr : Er → Value → Option Addr → Hp → Prop} {W : WX} (h : EvX X Γ e (fun r : List α => fz r) mo xr W) : EvX X Γ e (fun r : List α => fz (some r)) mo xr W :=
  EvX.conv h fun r B F H A sv ⟨eA, v, ev, rv⟩ => ⟨eA, v, ev, (by
    obtain ⟨p, vs, e, _⟩ := id rv
    exact ⟨rv, by rw [e]; simp⟩)⟩
open PySem PySem.Spec PyProof.Rows L2
open Rp (rp)
section
variable {X : Cx} {Γ : List (Sl X.K)} {e a : Expr} {S : Sup} {pos : Pos} {ρ0 : Type} {W : WX} {α β : Type} [Rp α] [Rp β]
theorem Bx.bnd {γ' : Type} {o : Option γ'} {ss : List Stmt} {γb : ρ0 → List (Sl X.K)} {k : γ' → Option (ρ0 ⊕ Er)} (h : ∀ t, o = some t → Bx X Γ γb ss (k t) W) : Bx X Γ γb ss (o.bind k) W := by
  cases o with
  | none => exact ⟨fun pins s σ H D I ⟨B, F, As, ok, o, e, q⟩ => nomatch e⟩
  | some t => exact h t rfl
theorem Ev.cv {f : α → β} {x : α} (k : ∀ (K : Frag) (H : Hp) (v : V), rp K H v x → rp K H v (f x)) (h : Ev X Γ e S (va x)) : Ev X Γ e S (va (f x)) :=
  Ev.imp h fun _ _ _ _ p => k _ _ _ p
instance [Nn α] [Nn β] : Nn (α ⊕ β) := ⟨fun {K H v x} h => by
  cases x with
  | inl a => exact Nn.nn (show rp K H v a from h)
  | inr b => exact Nn.nn (show rp K H v b from h)⟩
end
class Dk (α : Type) [Rp α] where
  enc : α → PyData
  n : Nat
  ok : α → Bool
  dp : ∀ {K : Frag} {H : Hp} {v : V} {x : α}, rp K H v x → Dp K H v (enc x)
  lay : ∀ x : α, ok x = true → (enc x).canLay0 = true
  dep : ∀ x : α, (enc x).depth ≤ n
instance : Dk Int := { enc := .int, n := 1, ok := fun _ => true, dp := De.dp, lay := fun x _ => De.lay x, dep := De.dep }
instance : Dk Bool := { enc := .bool, n := 1, ok := fun _ => true, dp := De.dp, lay := fun x _ => De.lay x, dep := De.dep }
instance : Dk Unit := { enc := fun _ => .none, n := 1, ok := fun _ => true, dp := De.dp, lay := fun x _ => De.lay x, dep := De.dep }
instance : Dk (Option Int) := { enc := De.enc, n := 1, ok := fun _ => true, dp := De.dp, lay := fun x _ => De.lay x, dep := De.dep }
instance : Dk Str := { enc := .str, n := 1, ok := PyData.strOk, dp := fun h => by cases h; exact .str _, lay := fun _ h => by simp [PyData.canLay0, h], dep := fun _ => by simp [PyData.depth] }
theorem dpAllK {α : Type} [Rp α] [Dk α] {K : Frag} {H : Hp} : ∀ {vs : List V} {xs : List α}, Rs (rp K H) vs xs → DpAll K H vs (xs.map Dk.enc)
  | [], [], _ => .nil
  | _ :: _, _ :: _, h => .cons (Dk.dp h.1) (dpAllK h.2)
  | [], _ :: _, h => h.elim
  | _ :: _, [], h => h.elim
theorem layAllK {α : Type} [Rp α] [Dk α] : ∀ xs : List α, xs.all Dk.ok = true → PyData.canLayAll0 (xs.map Dk.enc) = true
  | [], _ => rfl
  | x :: xs, h => by
    rw [List.all_cons, Bool.and_eq_true] at h
    rw [List.map_cons, PyData.canLayAll0, Dk.lay x h.1, layAllK xs h.2]; rfl
theorem depAllK {α : Type} [Rp α] [Dk α] : ∀ xs : List α, PyData.depthAll (xs.map Dk.enc) ≤ Dk.n α
  | [] => Nat.zero_le _
  | x :: xs => by
    rw [List.map_cons, PyData.depthAll]
    have := depAllK xs
    have := Dk.dep x
    omega
instance {α : Type} [Rp α] [Dk α] : Dk (List α) := { enc := fun xs => .list (xs.map Dk.enc), n := Dk.n α + 1, ok := fun xs => xs.all Dk.ok, dp := fun ⟨a, vs, e, h, r⟩ => (by rw [e]; exact .lst (SqL.of h) (dpAllK r)), lay := fun xs h => (by rw [PyData.canLay0]; exact layAllK xs h), dep := fun xs => (by rw [PyData.depth]; exact Nat.succ_le_succ (depAllK xs)) }
instance {α : Type} [Rp α] [Dk α] : Dk (Tu α) := { enc := fun xs => .tuple (xs.l.map Dk.enc), n := Dk.n α + 1, ok := fun xs => xs.l.all Dk.ok, dp := fun ⟨a, vs, e, h, r⟩ => (by rw [e]; exact .tup (SqT.of h) (dpAllK r)), lay := fun xs h => (by rw [PyData.canLay0]; exact layAllK xs.l h), dep := fun xs => (by rw [PyData.depth]; exact Nat.succ_le_succ (depAllK xs.l)) }
instance {α β : Type} [Rp α] [Dk α] [Rp β] [Dk β] : Dk (α × β) where
  enc := fun x => .tuple [Dk.enc x.1, Dk.enc x.2]
  n := max (Dk.n α) (Dk.n β) + 1
  ok := fun x => Dk.ok x.1 && Dk.ok x.2
  dp := fun ⟨a, v, w, e, h, r1, r2⟩ => (by rw [e]; exact .tup (SqT.of h) (.cons (Dk.dp r1) (.cons (Dk.dp r2) .nil)))
  lay := fun x h => (by rw [Bool.and_eq_true] at h; simp [PyData.canLay0, PyData.canLayAll0, Dk.lay, h.1, h.2])
  dep := fun x => (by
    have := Dk.dep x.1
    have := Dk.dep x.2
    simp only [PyData.depth, PyData.depthAll]
    omega)
instance {α β γ : Type} [Rp α] [Dk α] [Rp β] [Dk β] [Rp γ] [Dk γ] : Dk (T3 α β γ) where
  enc := fun x => .tuple [Dk.enc x.a, Dk.enc x.b, Dk.enc x.c]
  n := max (Dk.n α) (max (Dk.n β) (Dk.n γ)) + 1
  ok := fun x => Dk.ok x.a && (Dk.ok x.b && Dk.ok x.c)
  dp := fun ⟨a, v, w, u, e, h, r1, r2, r3⟩ => (by rw [e]; exact .tup (SqT.of h) (.cons (Dk.dp r1) (.cons (Dk.dp r2) (.cons (Dk.dp r3) .nil))))
  lay := fun x h => (by rw [Bool.and_eq_true, Bool.and_eq_true] at h; simp [PyData.canLay0, PyData.canLayAll0, Dk.lay, h.1, h.2.1, h.2.2])
  dep := fun x => (by
    have := Dk.dep x.a
    have := Dk.dep x.b
    have := Dk.dep x.c
    simp only [PyData.depth, PyData.depthAll]
    omega)
instance {α β : Type} [Rp α] [Dk α] [Rp β] [Dk β] : Dk (α ⊕ β) := {
  enc := fun x => match x with
    | .inl a => Dk.enc a
    | .inr b => Dk.enc b
  n := max (Dk.n α) (Dk.n β)
  ok := fun x => match x with
    | .inl a => Dk.ok a
    | .inr b => Dk.ok b
  dp := fun {K H v x} h => by cases x <;> exact Dk.dp h
  lay := fun x h => by cases x <;> exact Dk.lay _ h
  dep := fun x => by
    cases x with
    | inl a => exact Nat.le_trans (Dk.dep a) (Nat.le_max_left _ _)
    | inr b => exact Nat.le_trans (Dk.dep b) (Nat.le_max_right _ _) }
theorem Dk.shaped {α : Type} [Rp α] [Dk α] (h : Dk.n α ≤ 64) (x : α) (k : Dk.ok x = true) : SeqAt.shaped (Dk.enc x) = true := by
  unfold SeqAt.shaped
  rw [Dk.lay x k, decide_eq_true (Nat.le_trans (Dk.dep x) h)]
  rfl
def eqK {α : Type} [Rp α] [Dk α] (x y : α) : Option Bool := if Dk.ok x = true ∧ Dk.ok y = true then some (PyData.eqv (Dk.enc x) (Dk.enc y)) else none
theorem eqK_refl {α : Type} [Rp α] [Dk α] {x : α} (h : Dk.ok x = true) : eqK x x = some true := by
  unfold eqK
  rw [if_pos ⟨h, h⟩, PySem.SeqAt.eqv_refl_plain _ (PyData.plain_of_canLay0 _ (Dk.lay x h))]
section
variable {X : Cx} {Γ : List (Sl X.K)} {a b : Expr} {S T : Sup} {α : Type} [Rp α] [Dk α] {x y : α} {t : Bool}
theorem EvC.eqK (hu : X.A.units + 64 < cLine) (ha : Ev X Γ a S (va x)) (hb : Ev X Γ b T (va y)) (h : M.eqK x y = some t) (hn : Dk.n α ≤ 64 := by decide) : EvC X Γ .Eq a b t := by
  unfold M.eqK at h
  split at h
  · rename_i hc
    cases h
    exact EvC.op2 (op_eqD hu) ha hb fun _ _ _ _ _ _ s s' p1 p2 q => ⟨Dk.enc x, Dk.enc y, Dk.dp (Rp.mono s p1), Dk.dp (Rp.mono s' p2), Dk.shaped hn x hc.1, Dk.shaped hn y hc.2, q⟩
  · cases h
end
open PySem PySem.Spec PyProof.Rows L2
open Rp (rp)
section
variable {X : Cx} {CX : CXT} {k : Nat} {f C : Addr} {fd : FuncData} {ps : List Str} {sp : Sp} {W : St → XK} {n : Str} {p1 pos : Pos} {e : Expr} {es : List Expr} {t : TA}
def tMkS (C : Addr) (sp : Sp) (W : St → XK) (t : TA) : TE := fun σ H Q => t σ H fun vs H1 => ∀ x dx : Addr, H1 x = none → H1 dx = none → dx ≠ x → sp (.ref x :: vs) (upd (upd H1 dx (.own x)) x (.ins C dx [])) (fun v H2 => v = .non ∧ Q (.ref x) H2) (W σ)
theorem mk_run {pins : List (Addr × Obj)} {σ : St} {H1 : Hp} {sh : Shared} {Q : VK} {us : List Value} {vs : List V} (MK : Mk X.K C f) (G : FnOk X.prog X.w X.K X.mg X.base CX k f fd ps sp) (room : Room (k + 1) X.A) (bnd : Binds X.K fd ps []) (pass : PassesAt CX X σ (W σ))
    (J : Inv X pins σ H1 sh) (rl : Vals vs us) (go : ∀ x dx : Addr, H1 x = none → H1 dx = none → dx ≠ x → sp (.ref x :: vs) (upd (upd H1 dx (.own x)) x (.ins C dx [])) (fun v H2 => v = .non ∧ Q (.ref x) H2) (W σ)) : wpAny (model X.prog X.w) X.A (call (.ref C) us) (EP X pins σ Q) X.xe sh := by
  have J2 := Inv.made (C := C) J
  have go2 := go (sh.heap.objs.size + 1) sh.heap.objs.size (J.hok.fresh (Nat.le_succ _)) (J.hok.fresh (Nat.le_refl _)) (Nat.ne_of_lt (Nat.lt_succ_self _))
  have rl2 : Vals (V.ref (sh.heap.objs.size + 1) :: vs) (Value.ref (sh.heap.objs.size + 1) :: us) := .cons rfl rl
  have len2 : (Value.ref (sh.heap.objs.size + 1) :: us).length = ps.length := rl2.length.symm.trans (G.len _ _ _ _ go2)
  have bnd2 := bnd _ (Value.ref (sh.heap.objs.size + 1) :: us) J2.kIn (by rw [List.append_nil]; exact len2)
  rw [List.append_nil] at bnd2
  have body := G.run _ X.stack _ _ ⟨Value.ref (sh.heap.objs.size + 1) :: us, []⟩ (Value.ref (sh.heap.objs.size + 1) :: us) _ _ (W σ) (room.make C us []) (J2.env0.make C us []) bnd2 rl2 go2
  refine wpAny_call (make_map (f := f) J.kIn MK.makes MK.init (beq_iff_eq.mp MK.fn) (codeAny_mono body fun out sh' post' => ?_))
  match out with
  | .error er => exact pass pins _ _ er sh' J2 post'
  | .ok (.ret u) =>
    obtain ⟨v, H2, J3, rv, ev, q3⟩ := J2.after post'
    subst ev
    exact ⟨rv, V.ref (sh.heap.objs.size + 1), H2, J3, rfl, q3⟩
  | .ok .next => exact post'.elim
  | .ok .brk => exact post'.elim
  | .ok .cont => exact post'.elim
theorem pe_mkS (MK : Mk X.K C f) (G : FnOk X.prog X.w X.K X.mg X.base CX k f fd ps sp) (room : Room (k + 1) X.A) (hg : Gl X n) (hm : X.mg n = some (.ref C)) (bnd : Binds X.K fd ps []) (pass : ∀ σ, PassesAt CX X σ (W σ)) (args : PA X (e :: es) t)
    (hdb : (n == ("__debug__" : Str)) = false := by decide) (h1 : starEach (e :: es) X.env = (false, eval e X.env) :: starEach es X.env := by rfl) (h2 : (backTo pos (starEach es X.env)).any (·.1) = false := by rfl) :
    PE X (.Call (.Name n p1) (e :: es) [] pos) (tMkS C sp W t) :=
  ⟨fun pins sh σ H Q J h => wpAny_Call_Name_kw (ld_glob J hg hm (PySem.W.callWith_K (h₀ := X.base) J.ok.mod.kin MK.kp (thn (args.run pos pins sh σ H _ J h) fun us sh1 ⟨vs, H1, J1, rl, go⟩ => ⟨J1.kIn, mk_run MK G room bnd (pass σ) J1 rl go⟩) h1 h2) hdb)⟩
end
section
variable {X : Cx} {Γ : List (Sl X.K)} {e : Expr} {S : Sup} {pos p1 : Pos} {ι ρ1 : Type} {ω : Type} [Rp ω] {Γ0 : ι → List (Sl X.K)} {m1 : ι → Option (Fl Web Empty ρ1 Er)} {γ1 : ι → Web → List (Sl X.K)} {R : ι → ρ1 → Sl X.K} {Pi : ι → ρ1 → List (Sl X.K)} {k : Nat} {f C : Addr} {fd : FuncData} {ps : List Str} {n : Str}
theorem EvX.make {W : WX} {y : ω} {o : Web ⊕ Er} (W0 : WebOk X.K C) (MK : Mk X.K C f) (G : FnOk X.prog X.w X.K X.mg X.base (L2N.CX X.prog X.w) k f fd ps (spF Γ0 m1 γ1 R Pi (xrE (K := X.K)))) (hr : Room (k + 1) X.A) (ix : V → ι) (tk : L2N.Takes X W) (hm : X.mg n = some (.ref C)) (hb : Binds X.K fd ps [])
    (ha : Ev X Γ e S (va y)) (h0 : ∀ v, [oI (fun z => z = v), bo y] = Γ0 (ix v)) (hd : ∀ v, endX (m1 (ix v)) = some o) (hγ : ∀ v w, (γ1 (ix v) w)[0]? = some (oW (fun z => z = v) w)) (hg : Gl X n := by rfl)
    (hdb : (n == ("__debug__" : Str)) = false := by decide) (h1 : St1 X e := by rfl) (hpl : (backTo pos (starEach [] X.env)).any (·.1) = false := by rfl) : EvX X Γ (.Call (.Name n p1) [e] [] pos) (fun w : Web => fz w) (some o) (xrE (K := X.K)) W :=
  PE.imp (pe_mkS MK G hr hg hm hb (L2N.passAt tk) (EvH.cons ha EvH.nil h1) hdb h1 hpl) fun σ H Q ⟨B, F, As, ok, o', eo, q⟩ => ⟨B, F, As, ok, fun vs H1 s1 hs x dx nx ndx ne => by
    cases eo
    obtain ⟨v, e, pv⟩ := Hs.one hs
    subst e
    have H2d : ∀ b o, H1 b = some o → upd (upd H1 dx (.own x)) x (.ins C dx []) b = some o := fun b o h => by
      rw [upd_ne (ne_of_none h nx), upd_ne (ne_of_none h ndx)]; exact h
    have free : ∀ b, upd (upd H1 dx (.own x)) x (.ins C dx []) b = none → H1 b = none := fun b h => by
      cases e : H1 b with
      | none => rfl
      | some o => rw [H2d b o e] at h; cases h
    have start : Ok H1 (res H1 (supp B F H .fz)) (Γ0 (ix (.ref x))) [[x], []] [some (.ref x), some v] (upd (upd H1 dx (.own x)) x (.ins C dx [])) := by
      rw [← h0]
      refine ⟨.cons ⟨x, dx, rfl, rfl, rfl, by rw [upd_same, W0.at_]⟩ (.cons ⟨rfl, v, _, rfl, pv, fun b o hb => .inr (res_same _ _ hb)⟩ .nil), H2d, fun b o h => H2d b o (res_same _ _ h), by simp, fun a h => ?_, fun a h => ?_⟩
      · have e : a = x := by simpa using h
        rw [e]
        cases e2 : res H1 (supp B F H .fz) x with
        | none => rfl
        | some o => rw [(res_some.mp e2).2] at nx; cases nx
      · have e : a = x := by simpa using h
        rw [e]; exact nx
    have hd0 := hd (.ref x)
    cases hmi : m1 (ix (.ref x)) with
    | none => rw [hmi] at hd0; cases hd0
    | some fl =>
      rw [hmi] at hd0
      cases fl with
      | bk s => cases hd0
      | ct s => cases hd0
      | rt s => cases hd0
      | nx web =>
        cases hd0
        refine ⟨ix (.ref x), H1, res H1 (supp B F H .fz), [[x], []], start, .nx web, hmi, fun F' As' σ' H' ok' fr => ⟨rfl, ?_⟩⟩
        obtain ⟨A, sv, hA, hs', a, dx', u, eA, ev, ww, hh, r⟩ := ok'.mt.get (hγ (.ref x) web)
        obtain rfl : a = x := by cases ww; rfl
        have sH : Same H1 H' := fun b o h => fr.keep b o (H2d b o h) (by simpa using ne_of_none h nx)
        have sHH := s1.trans sH
        let F2 := res H' fun b => F' b ≠ none ∨ b = a
        have sF2 : Same F F2 := fun b o h => by
          have z : F' b = some o := fr.ff _ _ (res_some.mpr ⟨.inr (by rw [h]; simp), s1 _ _ (ok.sf _ _ h)⟩)
          exact res_some.mpr ⟨.inl (by rw [z]; simp), ok'.sf _ _ z⟩
        have nF : ∀ b, F2 b ≠ none → F b ≠ none ∨ H b = none := fun b hb => by
          have z : F' b ≠ none ∨ b = a := Classical.byContradiction fun z => hb (res_none z)
          rcases z with z | z
          · rcases fr.nF b z with y | y | y
            · have e : b = a := by simpa using y
              rw [e]; exact .inr (s1.free nx)
            · have y : supp B F H .fz b := Classical.byContradiction fun z => y (res_none z)
              exact y.elim .inr .inl
            · exact .inr (s1.free (free b y))
          · rw [z]; exact .inr (s1.free nx)
        refine q (.ref a) [] F2 As H' (Ok.cons ⟨ok.mt.fr sF2 (ok.eqs sHH), ok.sb.trans sHH, res_same, ok.nd, fun b hb => ?_, ok.fb⟩ ⟨rfl, _, rfl, a, dx', u, rfl, res_some.mpr ⟨.inr rfl, hh⟩, Rp.mono (fun b o h => res_some.mpr ⟨.inl (by rw [h]; simp), ok'.sf _ _ h⟩) r⟩ List.nodup_nil fun b hb => by cases hb) ⟨fun b o h _ => sHH _ _ h, sF2, fun b hb => .inl (by rw [List.flatten_cons] at hb; simpa using hb), fun b hb => .inr (nF b hb)⟩
        cases e : F2 b with
        | none => rfl
        | some o =>
          rcases nF b (by rw [e]; simp) with z | z
          · exact absurd (ok.ff b hb) z
          · exact absurd z (ok.mt.lv b hb)
      | xc er =>
        cases hd0
        refine ⟨ix (.ref x), H1, res H1 (supp B F H .fz), [[x], []], start, .xc er, hmi, fun cls d σ' F' As' H' hx sF' fr => ?_⟩
        have s2 : Same H1 H' := fun b o h => fr.keep b o (H2d b o h) (by simpa using ne_of_none h nx)
        have sH := s1.trans s2
        have ok2 := ok.freeze sH
        have up : Same F' (res H' (supp B F H .fz)) := fun b o h => res_some.mpr ⟨?_, sF' _ _ h⟩
        · exact q cls d _ H' ⟨hx.1, hx.2.mono up⟩ ok2 (Fr.pure sH (fun b o h => res_some.mpr ⟨.inr (by rw [h]; simp), sH _ _ (ok.sf _ _ h)⟩) fun b hb => by
            have z : supp B F H .fz b := Classical.byContradiction fun z => hb (res_none z)
            exact z.elim .inr .inl)
        · rcases fr.nF b (by rw [h]; simp) with z | z | z
          · have e : b = x := by simpa using z
            rw [e]; exact .inl (s1.free nx)
          · exact Classical.byContradiction fun y => z (res_none y)
          · exact .inl (s1.free (free b z))⟩
end
section
variable {K : Frag} {κ α : Type} [Rp κ] [DecidableEq κ] [Ky κ] [Rp α]
theorem RL.append {F H : Hp} : ∀ {ps qs : List Addr} {xss yss : List (List α)}, RL K F H ps xss → RL K F H qs yss → RL K F H (ps ++ qs) (xss ++ yss)
  | [], _, [], _, _, h => h
  | _ :: _, _, _ :: _, _, ⟨h1, h2⟩, h => ⟨h1, RL.append h2 h⟩
  | [], _, _ :: _, _, h, _ => h.elim
  | _ :: _, _, [], _, h, _ => h.elim
end
open PySem PySem.Spec PyProof.Rows L2
open Rp (rp)
class Isb (α : Type) [Rp α] where
  isb : α → Bool
  typ : ∀ {K : Frag} {H : Hp} {v : V} {x : α}, rp K H v x → ∃ u, TyX K H v u ∧ PySem.W.kitOne K u (.type "bool") = some (isb x)
instance : Isb Int := ⟨fun _ => false, fun h => ⟨_, IsT.typ (α := Int) h, kit_ty (a := "int") (b := "bool") (r := false) (by decide +kernel)⟩⟩
instance : Isb Bool := ⟨fun _ => true, fun h => ⟨_, IsT.typ (α := Bool) h, kit_ty (a := "bool") (b := "bool") (r := true) (by decide +kernel)⟩⟩
instance : Isb Str := ⟨fun _ => false, fun h => ⟨_, IsT.typ (α := Str) h, kit_ty (a := "str") (b := "bool") (r := false) (by decide +kernel)⟩⟩
instance {α β γ : Type} [Rp α] [Rp β] [Rp γ] : Isb (T3 α β γ) := ⟨fun _ => false, fun h => ⟨_, IsT.typ (α := T3 α β γ) h, kit_ty (a := "tuple") (b := "bool") (r := false) (by decide +kernel)⟩⟩
instance {α β : Type} [Rp α] [Rp β] [Isb α] [Isb β] : Isb (α ⊕ β) where
  isb := fun x => match x with
    | .inl a => Isb.isb a
    | .inr b => Isb.isb b
  typ := fun {K H v x} h => by
    cases x with
    | inl a => exact Isb.typ (show rp K H v a from h)
    | inr b => exact Isb.typ (show rp K H v b from h)
section
variable {X : Cx} {Γ : List (Sl X.K)} {e a : Expr} {S T : Sup} {pos p1 : Pos}
theorem Ev.isb {α : Type} [Rp α] [Isb α] {x : α} {p2 : Pos} (hm : X.mg "isinstance" = none) (ha : Ev X Γ a S (va x)) (hmT : X.mg "bool" = none) (hg : Gl X "isinstance" := by rfl) (hgT : Gl X "bool" := by rfl)
    (h3 : starEach [a, .Name "bool" p2] X.env = (false, eval a X.env) :: starEach [.Name "bool" p2] X.env := by rfl) (h3' : starEach [.Name "bool" p2] X.env = (false, eval (.Name "bool" p2) X.env) :: starEach [] X.env := by rfl) (h4 : Pl1 X pos (.Name "bool" p2) := by rfl) :
    Ev X Γ (.Call (.Name "isinstance" p1) [a, .Name "bool" p2] [] pos) T (va (Isb.isb x)) :=
  PE.imp (pe_callB call_isi hg hm (by decide +kernel) (pa_cons ha (pa_cons (pe_bltn (v := .ty "bool") (u := .type "bool") hgT hmT (by decide +kernel) rfl (by decide) (by decide)) pa_nil h3') h3) (by decide) (by decide) h3 h4) fun σ H Q ⟨B, F, As, ok, q⟩ => ⟨B, F, As, ok, fun v H1 s1 p1 =>
    let ⟨u, hu, hk⟩ := Isb.typ (Rp.mono res_same p1)
    ⟨v, .ty "bool", u, .type "bool", _, rfl, .ty "bool", hu, hk, q _ H1 s1 rfl⟩⟩
end
open PySem PySem.Spec PyProof.Rows L2
open Rp (rp)
theorem Bk.re {X : Cx} {ν ρ' ρ ε : Type} {E : Be X.K ρ' ρ ε} {γ : ν → List (Sl X.K)} {Γ Γ' : List (Sl X.K)} {ss : List Stmt} {m : Option (Fl ν ρ' ρ ε)} (h : Bk X E γ Γ' ss m) (e : Γ = Γ' := by rfl) : Bk X E γ Γ ss m := e ▸ h
open PySem PySem.Spec PyProof.Rows L2
open Rp (rp)
section
variable {X : Cx} {Γ Γ' : List (Sl X.K)} {e a b : Expr} {pos p1 p2 p3 apos cpos : Pos} {n n2 n3 : Str} {α β γ' : Type} [Rp α] [Rp β] [Rp γ'] {S : Sup}
structure Ln where
  n : Nat
instance : Rp Ln := { rp := fun K H v x => ∃ a vs, v = .ref a ∧ H a = some (.lst vs) ∧ vs.length = x.n, mono := fun s ⟨a, vs, e, h, r⟩ => ⟨a, vs, e, s _ _ h, r⟩ }
end
end M
set_option Elab.async false
set_option linter.all false
set_option maxRecDepth 100000
set_option maxHeartbeats 4000000
namespace L2
open PySem PySem.Spec PyProof.Rows
theorem KT.drop {H : Hp} {kvs : List (List Key × V)} {xs : List (List Key × Addr × Value)} (r : KT H kvs xs) (k : List Key) : KT H (dropK kvs k) (withoutH xs k) := by
  unfold dropK withoutH
  induction r with
  | nil => exact .nil
  | @cons p q ps qs h t ih =>
    obtain ⟨h1, h2⟩ := h
    rw [List.filter_cons, List.filter_cons]
    by_cases e : p.1 = k
    · have a : ¬ decide (p.1 ≠ k) = true := by simp [e]
      have b : ¬ decide (q.1 ≠ k) = true := by simp [h1.symm.trans e]
      rw [if_neg a, if_neg b]; exact ih
    · have e' : ¬ q.1 = k := fun z => e (h1.trans z)
      have a : decide (p.1 ≠ k) = true := by simp [e]
      have b : decide (q.1 ≠ k) = true := by simp [e']
      rw [if_pos a, if_pos b]; exact .cons ⟨h1, h2⟩ ih
end L2
namespace M
open PySem PySem.Spec PyProof.Rows L2
open Rp (rp)
section
variable {X : Cx} {Γ Γ' : List (Sl X.K)} {e a b : Expr} {pos p1 p2 p3 apos cpos : Pos} {n n2 n3 : Str} {α β γ' : Type} [Rp α] [Rp β] [Rp γ'] {S : Sup}
theorem Kvs.drop {κ : Type} [Rp κ] [DecidableEq κ] [Ky κ] {R : V → α → Prop} {k : κ} : ∀ {ps : List (Ky.ek κ × V)} {qs : List (κ × α)}, Kvs R ps qs → Kvs R (@dropK _ (Ky.deq (κ := κ)) ps (Ky.enc k)) (qs.filter fun kv => decide (kv.1 ≠ k))
  | [], [], _ => trivial
  | p :: ps, q :: qs, h => by
    have ih := Kvs.drop (k := k) h.2
    unfold dropK at ih ⊢
    rw [List.filter_cons, List.filter_cons]
    by_cases e : q.1 = k
    · have e2 : p.1 = Ky.enc k := by rw [h.1.1, e]
      have a : ¬ decide (q.1 ≠ k) = true := by simp [e]
      have b : ¬ (@decide (p.1 ≠ Ky.enc k) (@instDecidableNot _ (Ky.deq (κ := κ) _ _))) = true := by simp [e2]
      rw [if_neg a, if_neg b]; exact ih
    · have e2 : p.1 ≠ Ky.enc k := by rw [h.1.1]; exact fun z => e (Ky.inj _ _ z)
      have a : decide (q.1 ≠ k) = true := by simp [e]
      have b : (@decide (p.1 ≠ Ky.enc k) (@instDecidableNot _ (Ky.deq (κ := κ) _ _))) = true := by simp [e2]
      rw [if_pos a, if_pos b]; exact ⟨h.1, ih⟩
  | [], _ :: _, h => h.elim
  | _ :: _, [], h => h.elim
end
instance {α β γ : Type} [Rp α] [Dk α] [Rp β] [Dk β] [Rp γ] [Dk γ] : Dk (Option (T3 α β γ)) where
  enc := fun x => match x with
    | none => .none
    | some y => Dk.enc y
  n := Dk.n (T3 α β γ) + 1
  ok := fun x => match x with
    | none => true
    | some y => Dk.ok y
  dp := fun {K H v x} h => (by
    cases x with
    | none =>
      have h : v = .non := h
      rw [h]; exact (Dk.dp (α := Unit) (x := ()) (H := H) (K := K) rfl)
    | some y => exact Dk.dp (h : rpOpt (rp K H) v (some y)).1)
  lay := fun x h => (by
    cases x with
    | none => exact Dk.lay (α := Unit) () rfl
    | some y => exact Dk.lay y h)
  dep := fun x => (by
    cases x with
    | none => exact Nat.le_trans (Dk.dep (α := Unit) ()) (Nat.succ_le_succ (Nat.zero_le _))
    | some y => exact Nat.le_succ_of_le (Dk.dep y))
end M
set_option Elab.async false
set_option linter.all false
set_option maxRecDepth 100000
set_option maxHeartbeats 8000000
namespace L2
open PySem PySem.Spec PyProof.Rows
section
variable {P : Program} {w : World} {A : Around} {E : Value → Shared → Prop} {s : Shared}
theorem set_loop {I : Addr} {fp wr : List Addr} {G : Array GenState → Array GenState → Prop} {n : Nat} {Pv : Nat → Value → Prop} {St : Nat → Shared → Prop} {R : Result → Shared → Prop}
    (W : WalksS P w A.in1 I fp wr G n Pv St) (S : Addr) (hSf : S ∉ fp) (Iv : Nat → Heap → Prop)
    (keep : ∀ i (h h' : Heap), Iv i h → (∀ b o, b ∉ wr → h.get? b = some o → h'.get? b = some o) → Iv i h')
    (step : ∀ i v (s : Shared) (E' : Value → Shared → Prop) (Q : Bool → Shared → Prop), Pv i v → i < n → Iv i s.heap → (∀ b h' tk, Heap.SameBut S s.heap h' → s.toks ≤ tk → Iv (i + 1) h' → Q b { s with heap := h', toks := tk }) → wpAny (model P w) A.in1 (setAdd S v) Q E' s) :
    ∀ (k i : Nat) (s : Shared), n - i = k → i ≤ n → St i s → Iv i s.heap → (∀ s', Moved (S :: wr) G s s' → Iv n s'.heap → R (.ok (.ret .none)) s') → codeAny (model P w) A (.builtin "set.update.loop" ⟨[.ref S, .ref I], []⟩) R s := by
  have more : ∀ b ∈ wr, b ∈ S :: wr := fun b hb => List.mem_cons_of_mem _ hb
  intro k
  induction k with
  | zero =>
    intro i s hk hi hst hv hR
    obtain rfl : i = n := by omega
    refine codeAny_builtin F.entry_set_update_loop ?_
    rw [Around.under_plainId F.plain_set_update_loop _]
    show wpAny _ A.in1 (pyNext (.ref I) >>= _) _ _ s
    refine wpAny_bind (W.done s _ _ hst fun s' hm => ?_)
    show wpAny _ A.in1 (ret Value.none) _ _ s'
    exact wpAny_pure (hR s' (hm.mono more) (keep _ _ _ hv fun b o hb e => hm.heap b o hb e))
  | succ k ih =>
    intro i s hk hi hst hv hR
    have hlt : i < n := by omega
    refine codeAny_builtin F.entry_set_update_loop ?_
    rw [Around.under_plainId F.plain_set_update_loop _]
    show wpAny _ A.in1 (pyNext (.ref I) >>= _) _ _ s
    refine wpAny_bind (W.item i s _ _ hlt hst fun v s' hP hst' hm => ?_)
    show wpAny _ A.in1 (holding [v] (setAdd S v) >>= _) _ _ s'
    refine wpAny_bind (wpAny_holding (step i v s' _ _ hP hlt (keep _ _ _ hv fun b o hb e => hm.heap b o hb e) fun b h' tk hsb ht hv' => ?_))
    refine wpAny_pure ⟨plainId_quiet F.plain_set_update_loop _, ih (i + 1) _ (by omega) hlt (W.frame _ s' _ _ hst' ht fun b hb o e => ?_) hv' fun s'' hm'' hv'' => ?_⟩
    · rw [hsb.2 b (fun h : b = S => hSf (by rw [← h]; exact hb))]; exact e
    · refine hR s'' (Moved.trans W.gtrans ((hm.mono more).then_heap ht fun b o hb e => ?_) hm'') hv''
      rw [hsb.2 b (fun h : b = S => hb (by rw [h]; exact List.mem_cons_self))]; exact e
abbrev freshSet (w : World) : Obj := { cls := .type "set", dict := none, data := .set #[] 0 (.fresh 0 0 (!w.params.followText "set-order")) }
set_option maxRecDepth 100000 in
theorem set_by {l : Addr} {items : Array Value} {Q : Value → Shared → Prop} (Iv : Nat → Heap → Prop) (hh : A.handled = none) (hl : s.heap.IsList l items)
    (h0 : Iv 0 ((s.heap.push (freshSet w)).push { cls := .type "list_iterator", data := .fields #[.ref l, .int 0 0] }))
    (keep : ∀ i (h h' : Heap), Iv i h → (∀ b o, b ≠ s.heap.objs.size + 1 → h.get? b = some o → h'.get? b = some o) → Iv i h')
    (step : ∀ i v (s' : Shared) (A' : Around) (E' : Value → Shared → Prop) (Q' : Bool → Shared → Prop), A'.units ≤ A.units + 3 → items[i]? = some v → Iv i s'.heap → (∀ b h' tk, Heap.SameBut s.heap.objs.size s'.heap h' → s'.toks ≤ tk → Iv (i + 1) h' → Q' b { s' with heap := h', toks := tk }) → wpAny (model P w) A' (setAdd s.heap.objs.size v) Q' E' s')
    (h : ∀ (h' : Heap) (tk : Nat), Iv items.size h' → Q (.ref s.heap.objs.size) { s with heap := h', toks := tk }) :
    wpAny (model P w) A (call (.type "set") [.ref l]) Q E s := by
  obtain ⟨c, tl, hmro⟩ := F.called_set.mro
  have hmade := F.called_set.made
  have hsub := F.called_set.sub
  refine wpAny_call (codeAny_of_tree ?_)
  show wpAny _ _ (callAny (.type "set") _) _ _ _
  refine wpAny_pure ⟨Code.quiet_builtin _ (by decide +kernel), codeAny_builtin F.entry_type_call ?_⟩
  rw [Around.under_plain (weight_type_call_type "set" [.ref l] []) rfl]
  have h1 := F.called_set.notType
  have h2 := F.called_set.canCreate
  have hct := F.typeCall_set_1 (.ref l)
  repeat (any_goals (first | assumption | wp_step))
  refine codeAny_mono (code_set_led1 (.ref l) (E := E) (Q₁ := fun obj s₁ => obj = .ref s.heap.objs.size ∧ s₁ = { s with heap := s.heap.push (freshSet w) }) ⟨rfl, rfl⟩) fun r s₁ hr => ?_
  cases r with
  | error e => exact hr
  | ok fl =>
    cases fl with
    | ret obj =>
      obtain ⟨rfl, rfl⟩ := hr
      have hS : (s.heap.push (freshSet w)).get? s.heap.objs.size = some (freshSet w) := Heap.get?_push_size _ rfl
      have hT : Shared.TypeIs { s with heap := s.heap.push (freshSet w) } (.ref s.heap.objs.size) "set" := ⟨_, hS, rfl⟩
      have hli := F.called_set.init.lookup
      have hbi := F.called_set.init.bind (.ref s.heap.objs.size)
      repeat (any_goals (first | assumption | wp_step))
      refine codeAny_mono (codeAny_call_builtin (R := wants (fun r s₂ => r = .none ∧ ∃ h' tk, s₂ = { s with heap := h', toks := tk } ∧ Iv items.size h') E) F.called_set.init.plain F.entry_set_init (check_set_init_1 hT ?_)) fun r₂ s₂ hr₂ => ?_
      · obtain ⟨ol, hol, hcl, nl, hdl⟩ := hl
        obtain ⟨ocls, odict, odata, oslots⟩ := ol
        simp only at hcl hdl
        subst hcl; subst hdl
        have hol' : (s.heap.push (freshSet w)).get? l = some { cls := .type "list", dict := odict, data := .seq items nl, slots := oslots } := Heap.get?_push_of_some _ hol
        have hsls := F.sub_list_set
        have hslf := F.sub_list_frozenset
        have hne : (Value.type "list" == Value.type "dict") = false := by decide
        have hl1 : (s.heap.push (freshSet w)).IsList l items := ⟨_, hol', rfl, nl, rfl⟩
        unfold Builtin.«set.__init__» noKeywords Builtin.Frozenset.updateFrom
        generalize hPI : pyIter = PI
        wp_walk
        subst hPI
        refine wpAny_pyIter_list hl1 ?_
        refine wpAny_bind (wpAny_runValue ?_)
        have hlS : l < s.heap.objs.size := Heap.lt_size hol
        have hh3 : A.in1.in1.in1.handled = none := by simp [hh]
        have hz1 : (s.heap.push (freshSet w)).objs.size = s.heap.objs.size + 1 := Heap.size_push ..
        have hneI : l ≠ (s.heap.push (freshSet w)).objs.size := by rw [hz1]; exact Nat.ne_of_lt (Nat.lt_succ_of_lt hlS)
        have hSf : s.heap.objs.size ∉ [(s.heap.push (freshSet w)).objs.size, l] := by
          rw [hz1]; simp only [List.mem_cons, List.mem_singleton, List.not_mem_nil, or_false, not_or]
          exact ⟨Nat.ne_of_lt (Nat.lt_succ_self _), Nat.ne_of_gt hlS⟩
        refine set_loop ((Walks.list hh3 _ l hneI items).toS) s.heap.objs.size hSf Iv (fun i h h' hv k => keep i h h' hv fun b o hb e => k b o (fun z => hb (by rw [List.mem_singleton.mp z, hz1])) e)
          (fun i v s' E' Q' hP hlt hv k => step i v s' _ E' Q' (Nat.le_refl _) hP hv k) (items.size - 0) 0 _ (by omega) (Nat.zero_le _) ⟨⟨_, Heap.get?_push_size _ rfl, rfl, rfl⟩, (hl1.push _)⟩ h0 fun s' hm hv => ?_
        obtain ⟨h', g2, d', tk', os'⟩ := s'
        have eg : g2 = s.gens := hm.gens
        have ed : d' = s.drawn := hm.drawn
        have eo : os' = s.os := hm.os
        subst eg; subst ed; subst eo
        show wpAny _ _ _ _ _ _
        refine wpAny_pure ?_
        show wpAny _ _ (ret Value.none) _ _ _
        exact wpAny_pure ⟨rfl, h', tk', rfl, hv⟩
      · cases r₂ with
        | error e => exact hr₂
        | ok fl₂ =>
          cases fl₂ with
          | ret r =>
            obtain ⟨rfl, h', tk, rfl, hv⟩ := hr₂
            repeat (any_goals (first | assumption | wp_step))
            exact h _ _ hv
          | _ => exact hr₂.elim
    | _ => exact hr.elim
end
end L2
set_option Elab.async false
set_option linter.all false
set_option maxRecDepth 100000
set_option maxHeartbeats 4000000
set_option Elab.async false
set_option linter.all false
set_option maxRecDepth 100000
set_option maxHeartbeats 8000000
namespace M
open PySem PySem.Spec PyProof.Rows L2
open Rp (rp)
section
variable {K : Frag}
abbrev abw {K : Frag} {α : Type} [Rp α] (S : Sup) (x : α) : ArgM K := ⟨S, va x, fz x⟩
def ArgOkW {K : Frag} (a : ArgM K) : Prop := ∀ (H1 G : Hp) (v : V), a.φ.p G H1 v → Same G H1 → a.s.p H1 H1 H1 [] (some v)
theorem ArgOkW.bo {α : Type} [Rp α] {S : Sup} {x : α} : ArgOkW (abo (K := K) S x) := fun H1 G v h s => ⟨rfl, v, G, rfl, h, fun b o hb => .inr (s _ _ hb)⟩
theorem ArgOkW.fz {α : Type} [Rp α] {S : Sup} {x : α} : ArgOkW (abw (K := K) S x) := fun H1 G v h s => ⟨rfl, v, rfl, Rp.mono s h⟩
def RdS {α : Type} [Rp α] (s : Sl K) (x : α) : Prop := ∀ B F H A sv, s.p B F H A sv → Same F H → ∃ v, sv = some v ∧ rp K H v x
theorem RdS.fz {α : Type} [Rp α] {x : α} : RdS (M.fz x : Sl K) x := fun B F H A sv ⟨_, v, e, r⟩ s => ⟨v, e, Rp.mono s r⟩
end
open PySem PySem.Spec PyProof.Rows L2
open Rp (rp)
abbrev Td := (Str × List Int) ⊕ T3 Str Int (List Int)
section
variable {K : Frag}
def ArgOkN {K : Frag} (a : ArgM K) : Prop := ∀ (H1 G : Hp) (v : V), a.φ.p G H1 v → Same G H1 → a.s.p H1 (fun _ => none) H1 [] (some v)
theorem ArgOkN.bo {α : Type} [Rp α] {S : Sup} {x : α} : ArgOkN (abo (K := K) S x) := fun H1 G v h s => ⟨rfl, v, G, rfl, h, fun b o hb => .inr (s _ _ hb)⟩
theorem ArgOkN.sc {α : Type} [Sc α] {S : Sup} {x : α} : ArgOkN (abw (K := K) S x) := fun H1 G v h s => ⟨rfl, v, rfl, Sc.sc h⟩
end
open PySem PySem.Spec PyProof.Rows L2
open Rp (rp)
section
variable {K : Frag} {α : Type} [Rp α]
theorem RL.cat {F H : Hp} : ∀ {ps qs : List Addr} {xss yss : List (List α)}, RL K F H ps xss → RL K F H qs yss → RL K F H (ps ++ qs) (xss ++ yss)
  | [], _, [], _, _, k => k
  | _ :: _, _, _ :: _, _, h, k => ⟨h.1, RL.cat h.2 k⟩
  | [], _, _ :: _, _, h, _ => h.elim
  | _ :: _, _, [], _, h, _ => h.elim
end
instance : IsT Td := ⟨.type "tuple", fun {K H v x} h => by
  cases x with
  | inl y => exact IsT.typ (α := Str × List Int) h
  | inr y => exact IsT.typ (α := T3 Str Int (List Int)) h⟩
open PySem PySem.Spec PyProof.Rows L2
open Rp (rp)
mutual
  def Pap.enc : Pap → PyData
    | .non => .none
    | .lst l => .list (l.map De.enc)
    | .full p => .tuple [.str (Str.ofString "full"), .int p]
    | .cho p l => .tuple [.str (Str.ofString "choose"), .int p, .tuple (Pap.encs l)]
  def Pap.encs : List Pap → List PyData
    | [] => []
    | x :: xs => Pap.enc x :: Pap.encs xs
end
theorem dpAllO {K : Frag} {H : Hp} : ∀ {vs : List V} {xs : List (Option Int)}, Rs (rp K H) vs xs → DpAll K H vs (xs.map De.enc)
  | [], [], _ => .nil
  | _ :: _, _ :: _, h => .cons (De.dp h.1) (dpAllO h.2)
  | [], _ :: _, h => h.elim
  | _ :: _, [], h => h.elim
mutual
  theorem Pap.dp {K : Frag} {H : Hp} : ∀ {v : V} {x : Pap}, rpPap K H v x → Dp K H v x.enc
    | _, .non, h => by
      unfold rpPap at h
      subst h
      unfold Pap.enc
      exact .non
    | _, .lst l, h => by
      unfold rpPap at h
      obtain ⟨a, vs, e, hh, r⟩ := h
      subst e
      unfold Pap.enc
      exact .lst (SqL.of hh) (dpAllO r)
    | _, .full p, h => by
      unfold rpPap at h
      obtain ⟨a, v1, v2, e, hh, r1, r2⟩ := h
      subst e
      cases r1
      cases r2
      unfold Pap.enc
      exact .tup (SqT.of hh) (.cons (.str _) (.cons (.int _) .nil))
    | _, .cho p l, h => by
      unfold rpPap at h
      obtain ⟨a, b, vs, e, h1, h2, r⟩ := h
      subst e
      unfold Pap.enc
      exact .tup (SqT.of h1) (.cons (.str _) (.cons (.int _) (.cons (.tup (SqT.of h2) (Pap.dps r)) .nil)))
  theorem Pap.dps {K : Frag} {H : Hp} : ∀ {vs : List V} {xs : List Pap}, rpPaps K H vs xs → DpAll K H vs (Pap.encs xs)
    | [], [], _ => by unfold Pap.encs; exact .nil
    | _ :: _, _ :: _, h => by
      unfold rpPaps at h
      unfold Pap.encs
      exact .cons (Pap.dp h.1) (Pap.dps h.2)
    | [], _ :: _, h => by unfold rpPaps at h; exact h.elim
    | _ :: _, [], h => by unfold rpPaps at h; exact h.elim
end
open PySem PySem.Spec PyProof.Rows L2
open Rp (rp)
instance {α β γ δ : Type} [Rp α] [Dk α] [Rp β] [Dk β] [Rp γ] [Dk γ] [Rp δ] [Dk δ] : Dk (T4 α β γ δ) where
  enc := fun x => .tuple [Dk.enc x.a, Dk.enc x.b, Dk.enc x.c, Dk.enc x.d]
  n := max (Dk.n α) (max (Dk.n β) (max (Dk.n γ) (Dk.n δ))) + 1
  ok := fun x => Dk.ok x.a && (Dk.ok x.b && (Dk.ok x.c && Dk.ok x.d))
  dp := fun ⟨a, v, w, u, z, e, h, r1, r2, r3, r4⟩ => (by rw [e]; exact .tup (SqT.of h) (.cons (Dk.dp r1) (.cons (Dk.dp r2) (.cons (Dk.dp r3) (.cons (Dk.dp r4) .nil)))))
  lay := fun x h => (by rw [Bool.and_eq_true, Bool.and_eq_true, Bool.and_eq_true] at h; simp [PyData.canLay0, PyData.canLayAll0, Dk.lay, h.1, h.2.1, h.2.2.1, h.2.2.2])
  dep := fun x => (by
    have := Dk.dep x.a
    have := Dk.dep x.b
    have := Dk.dep x.c
    have := Dk.dep x.d
    simp only [PyData.depth, PyData.depthAll]
    omega)
abbrev Stp := T3 Str Int Int ⊕ T4 Str Int Int Int
structure Dyr where
  web : Web
  dyes : List (Option Int)
  steps : List Stp
def dyC (K : Frag) : Addr := match PySem.W.nsIn K mainGlobals "Dyer" with
  | some (some (.ref C)) => C
  | _ => 0
structure DyOk (K : Frag) (C : Addr) : Prop where
  at_ : dyC K = C
  cl : Cls K C
  n1 : NoAttr K C "web"
  n2 : NoAttr K C "dyes"
  n3 : NoAttr K C "steps"
def dF1 (u : V) : List (Str × V) := putF "web" u []
def dF2 (u : V) (b : Addr) : List (Str × V) := putF "dyes" (.ref b) (dF1 u)
def dF3 (u : V) (b c : Addr) : List (Str × V) := putF "steps" (.ref c) (dF2 u b)
section
variable {K : Frag}
def oDy (w : V → Prop) (x : Dyr) : Sl K := ⟨fun B F H A sv => ∃ a, sv = some (.ref a) ∧ w (.ref a) ∧ ∃ b c dx u vs ws, A = [a, b, c] ∧ H a = some (.ins (dyC K) dx (dF3 u b c)) ∧ rp K F u x.web ∧ H b = some (.lst vs) ∧ Rs (rp K F) vs x.dyes ∧ H c = some (.lst ws) ∧ Rs (rp K F) ws x.steps,
  fun ⟨a, e2, ww, b, c, dx, u, vs, ws, e, h, r, hb, rs, hc, rs2⟩ s k => ⟨a, e2, ww, b, c, dx, u, vs, ws, e, (k a (by rw [e]; simp)).trans h, Rp.mono s r, (k b (by rw [e]; simp)).trans hb, rs.mono fun _ _ => Rp.mono s, (k c (by rw [e]; simp)).trans hc, rs2.mono fun _ _ => Rp.mono s⟩,
  fun ⟨a, e2, ww, b, c, dx, u, vs, ws, e, h, r, hb, rs, hc, rs2⟩ z hz => by
    rw [e] at hz
    rcases List.mem_cons.mp hz with hz | hz
    · rw [hz, h]; simp
    rcases List.mem_cons.mp hz with hz | hz
    · rw [hz, hb]; simp
    · rw [show z = c by simpa using hz, hc]; simp⟩
theorem NoB.dy {w : V → Prop} {x : Dyr} : NoB (oDy w x : Sl K) := fun _ _ _ _ _ _ h => h
theorem OwnP.dy {w : V → Prop} {x y : Dyr} : OwnP (oDy w x : Sl K) (oDy w y) (fun v => oDy (fun u => u = v) x) (fun v => oDy (fun u => u = v) y) :=
  ⟨fun _ _ _ _ _ _ _ ⟨a, e2, ww, b, c, dx, u, vs, ws, e, h, r, hb, rs, hc, rs2⟩ s => ⟨_, e2, a, rfl, rfl, b, c, dx, u, vs, ws, e, h, Rp.mono s r, hb, rs.mono fun _ _ => Rp.mono s, hc, rs2.mono fun _ _ => Rp.mono s⟩,
   fun _ _ _ _ _ _ _ _ v sv ⟨a, e2, ww, _⟩ ⟨a', e2', ew, q⟩ => ⟨a', by rw [ew], by rw [ew]; cases e2; exact ww, q⟩⟩
end
section
variable {K : Frag} {X : Cx} {Γ Γ' Γ1 Γ2 : List (Sl X.K)} {e a b c : Expr} {S T : Sup} {α : Type} [Rp α] {pos p1 p2 p3 apos : Pos} {s : Sl X.K} {es : List Expr} {n : Str} {w : V → Prop} {C : Addr}
variable {ν β ρ ε : Type} {E : Be X.K β ρ ε} {γ : ν → List (Sl X.K)} {rest : List Stmt} {m : Option (Fl ν β ρ ε)}
def two {α : Type} : List α → Option (α × α)
  | [x, y] => some (x, y)
  | _ => none
end
open PySem PySem.Spec PyProof.Rows L2
open Rp (rp)
structure Hld where
  tu : List (List Int)
  dy : List (Option Int)
  st : List Stp
section
variable {K : Frag}
def oHd (w : V → Prop) (x : Hld) : Sl K := ⟨fun _ F H A sv => ∃ a, sv = some (.ref a) ∧ w (.ref a) ∧ ∃ c v1 v2 vs, A = [c] ∧ F a = some (.tup [v1, v2, .ref c]) ∧ rp K F v1 x.tu ∧ rp K F v2 x.dy ∧ H c = some (.lst vs) ∧ Rs (rp K F) vs x.st,
  fun ⟨a, e2, ww, c, v1, v2, vs, e, f, r1, r2, h, rs⟩ s k => ⟨a, e2, ww, c, v1, v2, vs, e, s _ _ f, Rp.mono s r1, Rp.mono s r2, (k c (by rw [e]; simp)).trans h, rs.mono fun _ _ => Rp.mono s⟩,
  fun ⟨a, e2, ww, c, v1, v2, vs, e, f, r1, r2, h, rs⟩ z hz => by
    rw [e] at hz
    rw [show z = c by simpa using hz, h]; simp⟩
theorem NoB.hd {w : V → Prop} {x : Hld} : NoB (oHd w x : Sl K) := fun _ _ _ _ _ _ h => h
theorem OwnP.hd {w : V → Prop} {x y : Hld} : OwnP (oHd w x : Sl K) (oHd w y) (fun v => oHd (fun u => u = v) x) (fun v => oHd (fun u => u = v) y) :=
  ⟨fun _ _ _ _ _ _ _ ⟨a, e2, ww, c, v1, v2, vs, e, f, r1, r2, h, rs⟩ s => ⟨_, e2, a, rfl, rfl, c, v1, v2, vs, e, s _ _ f, Rp.mono s r1, Rp.mono s r2, h, rs.mono fun _ _ => Rp.mono s⟩,
   fun _ _ _ _ _ _ _ _ v sv ⟨a, e2, ww, _⟩ ⟨a', e2', ew, q⟩ => ⟨a', by rw [ew], by rw [ew]; cases e2; exact ww, q⟩⟩
end
section
variable {K : Frag} {X : Cx} {Γ Γ' Γ1 Γ2 : List (Sl X.K)} {e a b c : Expr} {S T : Sup} {α : Type} [Rp α] {pos p1 p2 p3 p4 apos bp : Pos} {s : Sl X.K} {es : List Expr} {n ny : Str} {w : V → Prop}
variable {ν β ρ ε : Type} {E : Be X.K β ρ ε} {γ : ν → List (Sl X.K)} {rest ss : List Stmt} {m : Option (Fl ν β ρ ε)}
theorem Ev.hd0 (i : Nat) {x : Hld} {jj : Nat} (hΓ : Γ[i]? = some (oHd w x) := by rfl) (hN : X.N[i]? = some n := by rfl) (hv : Vis X.env.scope n := by first | exact Or.inl rfl | exact Or.inr (Or.inl rfl) | exact Or.inr (Or.inr rfl)) (hd : (n == ("__debug__" : Str)) = false := by decide) (hcd : (n == ("__classdict__" : Str)) = false := by decide)
    (hp : PlainIx (.Constant (.int 0) jj p3) := by exact fun _ _ => rfl) : Ev X Γ (.Subscript (.Name n p1) (.Constant (.int 0) jj p3) p2) .fz (va x.tu) :=
  PE.imp (pe_ix ix_tup (pe_var hN hv hd hcd) pe_int hp) fun σ H Q ⟨B, F, As, ok, q⟩ => by
    obtain ⟨A, sv, hA, hs, a, e2, ww, c, v1, v2, vs, e, f, r1, r2, h, rs⟩ := ok.mt.get hΓ
    subst e2
    exact ⟨_, hs, a, [v1, v2, .ref c], 0, v1, rfl, rfl, SqT.of (ok.sf _ _ f), rfl, q v1 H (Same.refl _) (Rp.mono (fun b o h => res_some.mpr ⟨.inr (by rw [h]; simp), ok.sf _ _ h⟩) r1)⟩
def tEvR {K : Frag} {β ρ ε : Type} (E : Be K β ρ ε) (Γ : List (Sl K)) (mo : Option ρ) : TE := fun σ H Q => ∃ B F As, Ok B F Γ As σ H ∧ ∃ r, mo = some r ∧ ∀ v F' A As' σ' H', Ok B F' (E.R r :: E.Pi r) (A :: As') (some v :: σ') H' → Fr F As H F' (A :: As') H' → Q v H'
def EvR (X : Cx) {β ρ ε : Type} (E : Be X.K β ρ ε) (Γ : List (Sl X.K)) (e : Expr) (mo : Option ρ) : Prop := PE X e (tEvR E Γ mo)
variable {mo mb : Option ρ}
theorem EvR.of {r : ρ} (he : EvM X Γ e (E.R r) Γ') (w : Wk Γ' (E.Pi r)) : EvR X E Γ e (some r) :=
  PE.imp he fun σ H Q ⟨B, F, As, ok, r0, er, q⟩ => by
    cases er
    refine ⟨B, F, As, ok, fun v A F' As' H' ok' fr => ?_⟩
    obtain ⟨As2, ok2, k⟩ := ok'.tail.wk w
    obtain ⟨h, n, ha⟩ := ok'.head
    exact q v F' A As2 _ H' (ok2.cons h n fun a z => ⟨fun y => (ha a z).1 (k a y), (ha a z).2⟩) (fr.sub fun b hb => by
      rw [List.flatten_cons] at hb ⊢
      exact (List.mem_append.mp hb).elim (List.mem_append_left _) fun z => List.mem_append_right _ (k b z))
theorem EvR.bnd {γ' : Type} {o : Option γ'} {k : γ' → Option ρ} (h : ∀ t, o = some t → EvR X E Γ e (k t)) : EvR X E Γ e (o.bind k) := by
  cases o with
  | none => exact ⟨fun pins s σ H Q I ⟨B, F, As, ok, r, er, q⟩ => nomatch er⟩
  | some t => exact h t rfl
theorem EvR.one {op} (h : EvR X E Γ a mo) : EvR X E Γ (.BoolOp op [a] pos) mo := pe_one h
theorem EvR.and {p : Bool} {r0 : ρ} (ha : EvM X Γ a (fz p) Γ1) (hb : p = true → EvR X E Γ1 (.BoolOp .And (b :: es) pos) mb) (h0 : E.R r0 = fz false := by rfl) (hw : p = false → Wk Γ1 (E.Pi r0)) : EvR X E Γ (.BoolOp .And (a :: b :: es) pos) (if p = true then mb else some r0) := by
  cases p with
  | true =>
    refine PE.imp (pe_and ha (hb rfl)) fun σ H Q ⟨B, F, As, ok, r, er, q⟩ => ⟨B, F, As, ok, fun v A F' As' H' ok' fr => ?_⟩
    obtain ⟨⟨_, w, e, rv⟩, _, _⟩ := ok'.head
    cases e
    rw [if_pos rfl] at er
    exact ⟨true, rv, iteT ⟨B, F', As', ok'.tail, r, er, fun v2 F2 A2 As2 σ2 H2 ok2 fr2 => q v2 F2 A2 As2 σ2 H2 ok2 ((fr.sub fun b hb => by rw [List.flatten_cons]; exact List.mem_append_right _ hb).trans fr2)⟩⟩
  | false =>
    refine ⟨fun pins s σ H Q I ⟨B, F, As, ok, r, er, hq⟩ => ?_⟩
    rw [if_neg (by decide)] at er
    cases er
    refine BoolOp_and (thn (ha.run pins s σ H (fun v H' => v = .bl false ∧ Q (.bl false) H') I ⟨B, F, As, ok, fun v A F' As' H' ok' fr => ?_⟩) fun v s1 ⟨x, H1, I1, r1, e, hq1⟩ => ?_)
    · obtain ⟨⟨_, w, e, rv⟩, _, _⟩ := ok'.head
      cases e
      have rv : v = .bl false := rv
      subst rv
      obtain ⟨As2, ok2, k⟩ := ok'.tail.wk (hw rfl)
      refine ⟨rfl, hq _ F' [] As2 (σ.take (E.Pi r0).length) H' ?_ ?_⟩
      · rw [h0]
        exact ok2.cons ⟨rfl, _, rfl, rfl⟩ List.nodup_nil fun a z => by cases z
      · exact fr.sub fun b hb => by
          rw [List.flatten_cons] at hb ⊢
          exact (List.mem_append.mp hb).elim (fun z => by cases z) fun z => List.mem_append_right _ (k b z)
    · subst e
      cases r1
      exact wpAny_truthy_bool ⟨.bl false, H1, I1, rfl, hq1⟩
instance {α β γ δ : Type} [Rp α] [Rp β] [Rp γ] [Rp δ] : IsT (T4 α β γ δ) := ⟨.type "tuple", fun ⟨_, _, _, _, _, e, h, _⟩ => by rw [e]; exact .base (.tup h)⟩
instance : IsT Stp := ⟨.type "tuple", fun {K H v x} h => by
  cases x with
  | inl a => exact IsT.typ (α := T3 Str Int Int) h
  | inr a => exact IsT.typ (α := T4 Str Int Int Int) h⟩
end
open PySem PySem.Spec PyProof.Rows L2
open Rp (rp)
section
variable {prog : Program} {w : World} {A : Around} {E : Value → Shared → Prop} {s : Shared} {z TI TO i1 i2 l1 l2 : Addr} {xs ys : Array Value} {a b f0 f1 : Value} {k : Nat}
abbrev Zr (h : Heap) (z TI TO : Addr) (f0 f1 : Value) : Prop := h.get? z = some { cls := .type "zip", dict := none, data := .fields #[f0, f1, .bool false, .ref TI, .ref TO], slots := #[] }
def Zf (f : Value) : Prop := f = .none ∨ ∃ T : Int, f = rawInt T
structure Zat (h : Heap) (z TI TO i1 i2 l1 l2 : Addr) (k : Nat) : Prop where
  ex : ∃ f0 f1 a b, Zf f0 ∧ Zr h z TI TO f0 f1 ∧ IsPair h TO a b
  gI : IsPair h TI (.ref i1) (.ref i2)
  g1 : h.IsListIter i1 l1 k
  g2 : h.IsListIter i2 l2 k
theorem Zat.ty {h : Heap} (g : Zat h z TI TO i1 i2 l1 l2 k) : ∃ o, h.get? z = some o ∧ o.cls = .type "zip" := by
  obtain ⟨⟨f0, f1, a, b, hf, gz, gO⟩, _⟩ := g
  exact ⟨_, gz, rfl⟩
structure Bes (e z TI TO i1 i2 : Addr) : Prop where
  z : e ≠ z
  TI : e ≠ TI
  TO : e ≠ TO
  i1 : e ≠ i1
  i2 : e ≠ i2
end
open PySem PySem.Spec PyProof.Rows L2
open Rp (rp)
def Alls (K : Frag) (H : Hp) : List V → List (List V) → Prop
  | [], [] => True
  | x :: ls, xs :: xss => (∃ c, x = .ref c ∧ SqL K H c xs) ∧ Alls K H ls xss
  | _, _ => False
theorem Alls.get {X : Cx} {pins : List (Addr × Obj)} {σ : St} {H : Hp} {s : Shared} (I : Inv X pins σ H s) : ∀ {ls : List V} {xss : List (List V)} {us : List Value}, Alls X.K H ls xss → Vals ls us →
    ∃ ys : List (Array Value), ys.length = us.length ∧ (∀ (j : Nat) (y : Array Value), ys[j]? = some y → ∃ a, us[j]? = some (.ref a) ∧ s.heap.IsList a y) ∧ Vals xss.flatten (ys.map Array.toList).flatten ∧ (ys = [] → xss = [])
  | [], [], us, _, r => by
    cases r
    exact ⟨[], rfl, fun j y h => by simp at h, .nil, fun _ => rfl⟩
  | x :: ls, xs :: xss, us, h, r => by
    cases r with
    | cons r1 r2 =>
      obtain ⟨⟨c, rfl, hs⟩, h2⟩ := h
      cases r1
      obtain ⟨its, rv, hl, _⟩ := I.list hs
      obtain ⟨ys, e1, e2, e3, _⟩ := Alls.get I h2 r2
      refine ⟨its.toArray :: ys, by rw [List.length_cons, List.length_cons, e1], fun j y h => ?_, ?_, fun h => by cases h⟩
      · cases j with
        | zero =>
          have h : its.toArray = y := by simpa using h
          subst h
          exact ⟨c, rfl, hl.isList⟩
        | succ j => exact e2 j y h
      · rw [List.flatten_cons, List.map_cons, List.flatten_cons]
        exact Vals.append rv e3
  | [], _ :: _, _, h, _ => h.elim
  | _ :: _, [], _, h, _ => h.elim
open PySem PySem.Spec PyProof.Rows L2
open Rp (rp)
section
variable {K : Frag} {α β γ : Type} [Rp α] [Rp β] [Rp γ]
theorem RL.mem {F H : Hp} : ∀ {ps : List Addr} {xss : List (List α)}, RL K F H ps xss → ∀ b ∈ ps, H b ≠ none
  | p :: ps, xs :: r, h, b, hb => by
    rcases List.mem_cons.mp hb with rfl | hb
    · obtain ⟨vs, e, _⟩ := h.1; rw [e]; simp
    · exact RL.mem h.2 b hb
  | [], _, _, b, hb => by cases hb
  | _ :: _, [], h, _, _ => h.elim
end
section
variable {X : Cx} {Γ Γ' : List (Sl X.K)} {e : Expr} {pos p2 : Pos} {s : Sl X.K} {ρ' ρ ε : Type} {E : Be X.K ρ' ρ ε}
theorem Bk1.asgn (i : Nat) {n : Str} (hN : X.N.Nodup) (he : EvM X Γ e s Γ') (hi : X.N[i]? = some n := by rfl) (hx : Loc X.env.scope n := by first | exact Or.inl rfl | exact Or.inr rfl)
    (hs : swapsWith e (some (.Name n p2)) pos.line X.env = pure false := by rfl) (hf : X.fn n = true ∨ X.env.scope.names.lookup n = some .local := by first | exact .inl rfl | exact .inr rfl | assumption) : PS X (.Assign [.Name n p2] e pos) (tBk E (fun _ : Unit => Γ'.set i s) Γ (some (.nx ()))) :=
  PS.imp (ps_set hN hi hx he hs hf) fun D σ H ⟨B, F, As, ok, o, em, q⟩ => by
    cases em
    exact ⟨B, F, As, ok, fun v A F' As' H' ok' fr => q F' (As'.set i A) _ H' (ok'.store i) (fr.sub fun b hb => by
      rw [List.flatten_cons]; exact List.mem_append.mpr (mem_flat_set hb))⟩
end
open PySem PySem.Spec PyProof.Rows L2
open Rp (rp)
def ErAt (H : Hp) (a C : Addr) (d : Option Addr) : Prop := H a = some (exo a C d) ∨ (d = none ∧ H a = some (ExO (.ref C) a))
theorem ErAt.mono {F H : Hp} {a C : Addr} {d : Option Addr} (s : Same F H) : ErAt F a C d → ErAt H a C d := fun h => h.imp (s _ _) fun h => ⟨h.1, s _ _ h.2⟩
def ErFs (K : Frag) (H : Hp) (d : Option Addr) (fs : List (Str × Fv)) : Prop :=
  (fs = [] ∧ d = none) ∨ ∃ dd us, d = some dd ∧ H dd = some (exd dd us) ∧ ∀ f y, fs.lookup f = some y → ∃ u, us.lookup f = some u ∧ rpFv K H u y
theorem ErFs.mono {K : Frag} {F H : Hp} {d : Option Addr} {fs : List (Str × Fv)} (s : Same F H) : ErFs K F d fs → ErFs K H d fs := fun h => h.imp id fun ⟨dd, us, e1, e2, k⟩ => ⟨dd, us, e1, s _ _ e2, fun f y hy => let ⟨u, h1, h2⟩ := k f y hy; ⟨u, h1, rpFv_mono s h2⟩⟩
instance : Rp Er := {
  rp := fun K H v e => ∃ a d, v = .ref a ∧ ErAt H a (exC K e.nm) d ∧ ErFs K H d e.fs
  mono := fun s ⟨a, d, e, h1, h2⟩ => ⟨a, d, e, h1.mono s, h2.mono s⟩ }
section
variable {X : Cx} {pins : List (Addr × Obj)} {σ : St} {H : Hp} {s : Shared}
theorem ErAt.held {a C : Addr} {d : Option Addr} (I : Inv X pins σ H s) (h : ErAt H a C d) : ∃ oe, s.heap.get? a = some oe ∧ Zc (.ref C) d oe ∧ ∃ vs, oe.data = .fields vs := by
  rcases h with h | ⟨rfl, h⟩
  · obtain ⟨t1, z⟩ := exo_at I.hok h
    exact ⟨_, z, ⟨rfl, rfl⟩, _, rfl⟩
  · obtain ⟨⟨oe, vs, h1, h2, h3, _⟩, _, _⟩ := I.hok a _ h
    exact ⟨oe, h1, h2, vs, h3⟩
def ErD (H : Hp) (d : Option Addr) : Prop := d = none ∨ ∃ dd us, d = some dd ∧ H dd = some (exd dd us)
theorem ErFs.d {K : Frag} {d : Option Addr} {fs : List (Str × Fv)} : ErFs K H d fs → ErD H d
  | .inl h => .inl h.2
  | .inr ⟨dd, us, e, h, _⟩ => .inr ⟨dd, us, e, h⟩
theorem ErD.mono {F H : Hp} {d : Option Addr} (s : Same F H) : ErD F d → ErD H d := fun h => h.imp id fun ⟨dd, us, e, h⟩ => ⟨dd, us, e, s _ _ h⟩
theorem ErAt.inst {a C : Addr} {d : Option Addr} (I : Inv X pins σ H s) (h : ErAt H a C d) (hd : ErD H d) : ∃ oe od, PySem.W.InstAt s.heap a oe C od := by
  obtain ⟨oe, hg, hz, vs, hv⟩ := h.held I
  obtain ⟨oc, od, oda, osl⟩ := oe
  obtain ⟨z1, z2⟩ := hz
  dsimp only at z1 z2 hv
  subst z1 z2 hv
  rcases hd with rfl | ⟨dd, us, rfl, hx⟩
  · exact ⟨_, none, hg, rfl, rfl, trivial⟩
  · obtain ⟨mm, hn, _⟩ := exd_at I.hok hx
    obtain ⟨o, h3, _⟩ := lookIn_ns hn
    exact ⟨_, some o, hg, rfl, rfl, h3⟩
end
section
variable {X : Cx} {Γ : List (Sl X.K)} {e e2 : Expr} {es : List Expr} {pos p1 p2 p3 : Pos} {ta : TA} {k : Nat} {fI : Addr} {fd : FuncData} {ps : List Str} {sp : Sp} {n : Str} {C : Addr}
theorem pe_mkX (T : OexC X.K C) (iC : PySem.W.findIn X.K (.ref C) "__init__" = some (some (.ref fI))) (tI : PySem.W.typeIn X.K (.ref fI) = some (.type "function")) (G : FnOk X.prog X.w X.K X.mg X.base CX0 k fI fd ps sp) (hr : Room (k + 1) X.A) (hb : Binds X.K fd ps []) (hg : Gl X n) (hm : X.mg n = some (.ref C)) (ha : PA X (e :: es) ta)
    (hdb : (n == ("__debug__" : Str)) = false := by decide) (he : starEach (e :: es) X.env = (false, eval e X.env) :: starEach es X.env := by rfl) (hpl : (backTo pos (starEach es X.env)).any (·.1) = false := by rfl) :
    PE X (.Call (.Name n p1) (e :: es) [] pos) (fun σ H Q => ta σ H fun vs H1 => vs.length ≤ 1000 ∧ ∀ a, H1 a = none → sp (.ref a :: vs) (upd H1 a (exo a C none)) (fun v H2 => v = .non ∧ Q (.ref a) H2) (fun _ _ _ => False)) := ⟨fun pins s σ H Q I h => by
  obtain ⟨_, _, _, _, bm, _, _, _, _, _, _, _, _, _, _, hC, hbm⟩ := T.cls
  refine wpAny_Call_Name_kw (ld_glob I hg hm (PySem.W.callWith_K (h₀ := X.base) I.ok.mod.kin T.kC (thn (ha.run pos pins s σ H _ I h) fun us s1 ⟨vs, H1, I1, r1, hz, q1⟩ => ⟨I1.kIn, ?_⟩) he hpl) hdb)
  show wpAny _ _ (call (.ref C) us) _ _ _
  obtain ⟨hp, g, dr, tk, os⟩ := s1
  obtain ⟨a, hae⟩ : ∃ a : Addr, a = hp.objs.size + 1 := ⟨_, rfl⟩
  obtain ⟨h2, hh⟩ : ∃ h2 : Heap, h2 = (hp.push (PySem.W.kdv_tup us)).push (PySem.HandSPX.excO C hp.objs.size) := ⟨_, rfl⟩
  have hsz : hp.objs.size ≤ a := by rw [hae]; exact Nat.le_succ _
  have hq := q1 a (I1.hok.fresh hsz)
  have kk : ∀ b o, hp.get? b = some o → h2.get? b = some o := fun b o z => by
    rw [hh]
    exact Heap.get?_push_of_some _ (Heap.get?_push_of_some _ z)
  have hget : h2.get? a = some (PySem.HandSPX.excO C hp.objs.size) := by
    rw [hh, hae]
    heap_get
  have I2 : Inv X pins σ (upd H1 a (exo a C none)) ⟨h2, g, dr, tk, os⟩ := I1.laid (t' := tk) (o := exo a C none) kk hsz (exo_ok hget)
  have rA : Vals (V.ref a :: vs) (Value.ref a :: us) := .cons rfl r1
  have hl : (Value.ref a :: us ++ []).length = ps.length := by
    rw [List.append_nil, ← rA.length]
    exact G.len _ _ _ _ hq
  have hus : us.length ≤ sizeLine := by
    have := Paired.length r1
    have := sizeLine_eq
    omega
  have bb := hb _ (Value.ref a :: us) I2.kIn hl
  rw [List.append_nil] at bb
  subst hae hh
  refine wpAny_call (PySem.HandSPX.call_own F.excBase_ValueError (fun Y => PySem.HandSPX.refsVE_contains Y bm hbm) (I1.kIn _ _ hC) (PySem.W.looks_findIn I1.kIn iC) (fun self => PySem.W.bind_fn I1.kIn self tI) hus
    (codeAny_mono (G.run _ X.stack _ _ ⟨Value.ref (hp.objs.size + 1) :: us, []⟩ (Value.ref (hp.objs.size + 1) :: us) _ _ (fun _ _ _ => False) (hr.make C us []) (I2.env0.make C us []) bb rA hq) fun r s' hq' => ?_))
  cases r with
  | error er => exact hq'.elim
  | ok fl =>
    cases fl with
    | ret u =>
      obtain ⟨v, H', I3, rv, ev, q3⟩ := I2.after hq'
      subst ev
      exact ⟨rv, ⟨V.ref (hp.objs.size + 1), H', I3, rfl, q3⟩⟩
    | next => exact hq'.elim
    | brk => exact hq'.elim
    | cont => exact hq'.elim⟩
theorem Ev.mk1 {S : Sup} {f : Str} {α : Type} [Rp α] {x : α} {y : Fv} (T : ErF X.K X.mg n fI [f]) (G : FnOk X.prog X.w X.K X.mg X.base CX0 k fI fd ps (spI1 X.K f)) (hr : Room (k + 1) X.A) (hb : Binds X.K fd ps []) (ha : Ev X Γ e .fz (va x)) (hy : ∀ F v, rp X.K F v x → rpFv X.K F v y) (hg : Gl X n := by rfl)
    (hdb : (n == ("__debug__" : Str)) = false := by decide) (he : starEach [e] X.env = (false, eval e X.env) :: starEach [] X.env := by rfl) (hpl : (backTo pos (starEach [] X.env)).any (·.1) = false := by rfl) :
    Ev X Γ (.Call (.Name n p1) [e] [] pos) S (va (⟨n, [(f, y)]⟩ : Er)) :=
  PE.imp (pe_mkX T.o T.i T.t G hr hb hg T.g (EvH.cons ha EvH.nil he) hdb he hpl) fun σ H Q ⟨B, F, As, ok, q⟩ => ⟨B, F, As, ok, fun vs H1 s1 hs => by
    match vs, hs with
    | [v], ⟨h1, _⟩ =>
      refine ⟨by simp, fun a na => ⟨a, exC X.K n, v, rfl, T.o, T.f f List.mem_cons_self, upd_same, fun d nd da => ?_⟩⟩
      have nd1 : H1 d = none := by rw [upd_ne da] at nd; exact nd
      have sH : Same H1 (upd (upd (upd H1 a (exo a (exC X.K n) none)) d (exd d [(f, v)])) a (exo a (exC X.K n) (some d))) := fun b o hb => by
        have n1 : b ≠ a := fun z => by rw [z, na] at hb; cases hb
        have n2 : b ≠ d := fun z => by rw [z, nd1] at hb; cases hb
        rw [upd_ne n1, upd_ne n2, upd_ne n1]; exact hb
      refine ⟨rfl, q (.ref a) _ (s1.trans sH) ⟨a, some d, rfl, .inl (res_some.mpr ⟨supp_new (s1.free na), upd_same⟩), .inr ⟨d, _, rfl, res_some.mpr ⟨supp_new (s1.free nd1), by rw [upd_ne da, upd_same]⟩, fun g z hz => ?_⟩⟩⟩
      by_cases eg : g = f
      · subst eg
        have : y = z := by simpa [List.lookup] using hz
        subst this
        refine ⟨v, by simp [List.lookup], rpFv_mono (fun b o hb => ?_) (hy _ _ h1)⟩
        obtain ⟨h3, h4⟩ := res_some.mp hb
        refine res_some.mpr ⟨?_, sH _ _ h4⟩
        exact supp_le (show Sup.le .fz S by cases S <;> trivial) _ h3
      · have : (g == f) = false := by simpa using eg
        simp [List.lookup, this] at hz⟩
theorem Ev.mk2 {S : Sup} {f f2 : Str} {α α2 : Type} [Rp α] [Rp α2] {x : α} {x2 : α2} {y y2 : Fv} (T : ErF X.K X.mg n fI [f, f2]) (hff : f ≠ f2) (G : FnOk X.prog X.w X.K X.mg X.base CX0 k fI fd ps (spI2 X.K f f2)) (hr : Room (k + 1) X.A) (hb : Binds X.K fd ps []) (ha : Ev X Γ e .fz (va x)) (ha2 : Ev X Γ e2 .fz (va x2))
    (hy : ∀ F v, rp X.K F v x → rpFv X.K F v y) (hy2 : ∀ F v, rp X.K F v x2 → rpFv X.K F v y2) (hg : Gl X n := by rfl) (hdb : (n == ("__debug__" : Str)) = false := by decide) (he : starEach [e, e2] X.env = (false, eval e X.env) :: starEach [e2] X.env := by rfl) (he2 : starEach [e2] X.env = (false, eval e2 X.env) :: starEach [] X.env := by rfl) (hpl : (backTo pos (starEach [e2] X.env)).any (·.1) = false := by rfl) :
    Ev X Γ (.Call (.Name n p1) [e, e2] [] pos) S (va (⟨n, [(f, y), (f2, y2)]⟩ : Er)) :=
  PE.imp (pe_mkX T.o T.i T.t G hr hb hg T.g (EvH.cons ha (EvH.cons ha2 EvH.nil he2) he) hdb he hpl) fun σ H Q ⟨B, F, As, ok, q⟩ => ⟨B, F, As, ok, fun vs H1 s1 hs => by
    match vs, hs with
    | [v, v2], ⟨h1, h2, _⟩ =>
      refine ⟨by simp, fun a na => ⟨a, exC X.K n, v, v2, rfl, T.o, T.f f List.mem_cons_self, T.f f2 (List.mem_cons_of_mem _ List.mem_cons_self), upd_same, fun d nd da => ?_⟩⟩
      have nd1 : H1 d = none := by rw [upd_ne da] at nd; exact nd
      have sH : Same H1 (upd (upd (upd (upd H1 a (exo a (exC X.K n) none)) d (exd d [(f, v)])) a (exo a (exC X.K n) (some d))) d (exd d [(f2, v2), (f, v)])) := fun b o hb => by
        have n1 : b ≠ a := fun z => by rw [z, na] at hb; cases hb
        have n2 : b ≠ d := fun z => by rw [z, nd1] at hb; cases hb
        rw [upd_ne n2, upd_ne n1, upd_ne n2, upd_ne n1]; exact hb
      have up : ∀ {u : V} {z : Fv}, rpFv X.K (M.res H1 (supp B F H .fz)) u z → rpFv X.K (M.res (upd (upd (upd (upd H1 a (exo a (exC X.K n) none)) d (exd d [(f, v)])) a (exo a (exC X.K n) (some d))) d (exd d [(f2, v2), (f, v)])) (supp B F H S)) u z := fun h => rpFv_mono (fun b o hb => by
        obtain ⟨h3, h4⟩ := res_some.mp hb
        exact res_some.mpr ⟨supp_le (show Sup.le .fz S by cases S <;> trivial) _ h3, sH _ _ h4⟩) h
      refine ⟨rfl, q (.ref a) _ (s1.trans sH) ⟨a, some d, rfl, .inl (res_some.mpr ⟨supp_new (s1.free na), by rw [upd_ne (Ne.symm da), upd_same]⟩), .inr ⟨d, _, rfl, res_some.mpr ⟨supp_new (s1.free nd1), upd_same⟩, fun g z hz => ?_⟩⟩⟩
      by_cases eg : g = f
      · subst eg
        have : y = z := by simpa [List.lookup] using hz
        subst this
        exact ⟨v, by rw [lookup_put, if_neg hff, lookup_put, if_pos rfl], up (hy _ _ h1)⟩
      · have e1 : (g == f) = false := by simpa using eg
        by_cases eg2 : g = f2
        · subst eg2
          have : y2 = z := by simpa [List.lookup, e1] using hz
          subst this
          exact ⟨v2, by rw [lookup_put, if_pos rfl], up (hy2 _ _ h2)⟩
        · have e2 : (g == f2) = false := by simpa using eg2
          simp [List.lookup, e1, e2] at hz⟩
theorem Ev.mk0 {S : Sup} (T : ErOk X.K X.mg n) (hg : Gl X n := by rfl) (hdb : (n == ("__debug__" : Str)) = false := by decide) : Ev X Γ (.Call (.Name n p1) [] [] pos) S (va (⟨n, []⟩ : Er)) := ⟨fun pins s σ H Q I ⟨B, F, As, ok, q0⟩ => by
  refine wpAny_Call_Name_kw (ld_glob I hg T.g ?_ hdb)
  refine PySem.W.callWith_K0 I.kIn T.k ?_
  show wpAny _ _ (call (.ref (exC X.K n)) []) _ _ _
  obtain ⟨bm, N, nm, qn, bs, hdct, sn, sub, ab, col, dd, k0, k1, k2, k3, k5, mN, hC, hN, hni, W⟩ := exc_obj I.kIn T.x
  refine wpAny_call_exc_subT PySem.F.excBase_ValueError W hC hN hni (fun h' a hm => ?_) (Nat.zero_le _)
  have hn : H a = none := I.hok.gone hm.new
  obtain ⟨o, ho, _, _⟩ := hm.there
  exact ⟨V.ref a, upd H a (ExO (.ref (exC X.K n)) a), I.laidN hm.keeps hm.new hn (exO_ok ho ⟨rfl, rfl⟩ rfl rfl rfl (show 4 < 6 by decide)), rfl, q0 _ _ (same_upd hn) ⟨a, none, rfl, .inr ⟨rfl, res_some.mpr ⟨supp_new hn, upd_same⟩⟩, .inl ⟨rfl, rfl⟩⟩⟩⟩
end
section
variable {X : Cx}
theorem cr_isV : CallR X (.builtin "isinstance") (fun xs H Q => ∃ (a D : Addr) (d : Option Addr) (c : V) (cv : Value) (b : Bool), xs = [.ref a, c] ∧ ErAt H a D d ∧ ErD H d ∧ ExcC X.K D ∧ ClsV c cv ∧ PySem.W.kitOne X.K (.ref D) cv = some b ∧ Q (.bl b) H) := by
  intro pins s σ H xs us Q I r hh
  obtain ⟨a, D, d, c, cv, b, rfl, ha, hd, C, hcv, e, q⟩ := hh
  obtain ⟨u1, u2, rfl, r1, r2⟩ := vals2 r
  cases (show u1 = Value.ref a from r1)
  cases hcv.eq r2
  obtain ⟨oe, od, J⟩ := ha.inst I hd
  exact PySem.W.kia_one (kitx_er C) I.kIn J e (fun z => nomatch z) fun tk => ⟨.bl b, H, I.tok tk, rfl, q⟩
variable {Γ : List (Sl X.K)} {S T : Sup} {pos p1 p2 p3 : Pos} {n m : Str} {e : Er} {b : Bool} {c : V} {cv : Value} {ea ec : Expr}
theorem Ev.isV (C : ExcC X.K (exC X.K e.nm)) (hm : X.mg "isinstance" = none) (ha : Ev X Γ ea S (va e)) (hc : PE X ec (fun σ H Q => Q c H)) (hcv : ClsV c cv) (hk : PySem.W.kitOne X.K (.ref (exC X.K e.nm)) cv = some b) (hg : Gl X "isinstance" := by rfl)
    (h3 : starEach [ea, ec] X.env = (false, eval ea X.env) :: starEach [ec] X.env := by rfl) (h3' : starEach [ec] X.env = (false, eval ec X.env) :: starEach [] X.env := by rfl) (h4 : Pl1 X pos ec := by rfl) :
    Ev X Γ (.Call (.Name "isinstance" p1) [ea, ec] [] pos) T (va b) :=
  PE.imp (pe_callB cr_isV hg hm (by decide +kernel) (pa_cons ha (pa_cons hc pa_nil h3') h3) (by decide) (by decide) h3 h4) fun σ H Q ⟨B, F, As, ok, q⟩ => ⟨B, F, As, ok, fun v H1 s1 ⟨a, d, ev, k1, k2⟩ => ⟨a, exC X.K e.nm, d, c, cv, b, by rw [ev], k1.mono res_same, k2.d.mono res_same, C, hcv, hk, q _ _ s1 rfl⟩⟩
def isO (ns : List Str) (e : Er) (c : Str) : Option Bool := if e.nm ∈ ns then some (M.isE e.nm c) else none
theorem isO_ok {ns : List Str} {e : Er} {c : Str} {b : Bool} (h : isO ns e c = some b) : e.nm ∈ ns ∧ b = M.isE e.nm c := by
  unfold isO at h
  split at h
  · rename_i k; cases h; exact ⟨k, rfl⟩
  · cases h
theorem Ev.isVo {ns cs os : List Str} (E : ExF X.K X.mg ns cs os) (h : isO ns e m = some b) (hcs : m ∈ cs) (hm : X.mg "isinstance" = none) (ha : Ev X Γ ea S (va e)) (hgm : Gl X m := by rfl) (hdm : (m == ("__debug__" : Str)) = false := by decide) (hg : Gl X "isinstance" := by rfl)
    (h3 : starEach [ea, .Name m p2] X.env = (false, eval ea X.env) :: starEach [.Name m p2] X.env := by rfl) (h3' : starEach [.Name m p2] X.env = (false, eval (.Name m p2) X.env) :: starEach [] X.env := by rfl) (h4 : Pl1 X pos (.Name m p2) := by rfl) :
    Ev X Γ (.Call (.Name "isinstance" p1) [ea, .Name m p2] [] pos) T (va b) := by
  obtain ⟨hn, rfl⟩ := isO_ok h
  exact Ev.isV (E.X _ hn) hm ha (pe_glob (v := .ref (exC X.K m)) hgm (E.g m (List.mem_append_left _ hcs)) rfl (hd := hdm)) (.own _) (E.I _ hn m hcs) hg h3 h3' h4
theorem Ev.isVe {ns cs os : List Str} (E : ExF X.K X.mg ns cs os) (h : isO ns e "ValueError" = some b) (hm : X.mg "isinstance" = none) (hv : X.mg "ValueError" = none) (ha : Ev X Γ ea S (va e)) (hgv : Gl X "ValueError" := by rfl) (hg : Gl X "isinstance" := by rfl)
    (h3 : starEach [ea, .Name "ValueError" p2] X.env = (false, eval ea X.env) :: starEach [.Name "ValueError" p2] X.env := by rfl) (h3' : starEach [.Name "ValueError" p2] X.env = (false, eval (.Name "ValueError" p2) X.env) :: starEach [] X.env := by rfl) (h4 : Pl1 X pos (.Name "ValueError" p2) := by rfl) :
    Ev X Γ (.Call (.Name "isinstance" p1) [ea, .Name "ValueError" p2] [] pos) T (va b) := by
  obtain ⟨hn, rfl⟩ := isO_ok h
  have e1 : M.isE e.nm "ValueError" = true := by unfold M.isE; simp
  rw [e1]
  exact Ev.isV (E.X _ hn) hm ha (pe_bltn (v := .ty "ValueError") (u := .type "ValueError") hgv hv rfl rfl (by decide) (by decide)) (.ty _) (E.V _ hn) hg h3 h3' h4
theorem Ev.erA {α : Type} [Rp α] {x : α} {g : Fv → Option α} [FvG g] {nms : List Str} {f : Str} (hE : ∀ n ∈ nms, XfC X.K (exC X.K n) ∧ PySem.W.findIn X.K (.ref (exC X.K n)) f = some none) (h : (erF nms e f).bind g = some x) (ha : Ev X Γ ea S (va e)) (hb : attributeBase ea f X.env (eval ea X.env) = eval ea X.env := by rfl) :
    Ev X Γ (.Attribute ea f pos) S (va x) := ⟨fun pins s σ H Q I ⟨B, F, As, ok, q⟩ => by
  unfold erF at h
  by_cases hn : e.nm ∈ nms
  · rw [if_pos hn] at h
    obtain ⟨W, hno⟩ := hE _ hn
    cases hl : e.fs.lookup f with
    | none => rw [hl] at h; cases h
    | some y =>
      rw [hl] at h
      refine attr_of hb (thn (ha.run pins s σ H (fun v H1 => Same H H1 ∧ (va e : Asr X.K).p (M.res H1 (supp B F H S)) H1 v) I ⟨B, F, As, ok, fun v H1 s1 hv => ⟨s1, hv⟩⟩) fun u s1 ⟨v, H1, I1, rx, s2, a, d, ev, k1, k2⟩ => ?_)
      subst ev
      cases (show u = Value.ref a from rx)
      rcases k2 with ⟨z, _⟩ | ⟨dd, us, rfl, e2, e3⟩
      · rw [z] at hl; cases hl
      obtain ⟨w, h1, h2⟩ := e3 f y hl
      have k1 := k1.mono (H := H1) res_same
      have e2 := res_same _ _ e2
      obtain ⟨oe, hh, hz, vs, hd⟩ := k1.held I1
      obtain ⟨mm, hns, hrel⟩ := exd_at I1.hok e2
      obtain ⟨od, ho, hlk⟩ := lookIn_ns hns
      have hr := hrel f
      rw [h1] at hr
      obtain ⟨z, hz1, hz2⟩ := RelO.some_of hr
      have J : PySem.W.InstAt s1.heap a oe (exC X.K e.nm) (some od) := ⟨hh, hz.1, by unfold PySem.W.notCls; rw [hd] <;> rfl, by rw [hz.2]; exact ho⟩
      exact HandSPX.exc_get I1.kIn J W.ga W.gg W.exC (PySem.W.findObj_own W.hdC hno rfl (by rw [hlk, hz1])) (handed_of hz2) ⟨w, H1, I1.tok _, hz2, q w H1 s2 (FvG.ok h h2)⟩
  · rw [if_neg hn] at h; cases h⟩
end
instance {α β : Type} [Rp α] [Rp β] : Isb (α × β) := ⟨fun _ => false, fun h => ⟨_, IsT.typ (α := α × β) h, kit_ty (a := "tuple") (b := "bool") (r := false) (by decide +kernel)⟩⟩
open PySem PySem.Spec PyProof.Rows L2
section
variable {α σ β ρ ε ν ν' : Type}
theorem forD_inv {f : σ → α → Option (Fl σ σ ρ ε)} (P : Nat → σ → Prop) : ∀ (xs : List α) (k : Nat) (s : σ), P k s → (∀ i s y, xs[i]? = some y → P (k + i) s → ∃ s', f s y = some (.nx s') ∧ P (k + i + 1) s') → ∃ s', forD (β := β) xs f s = some (.nx s') ∧ P (k + xs.length) s'
  | [], k, s, h, _ => ⟨s, rfl, h⟩
  | x :: xs, k, s, h, hf => by
    obtain ⟨s1, e1, h1⟩ := hf 0 s x rfl h
    obtain ⟨s2, e2, h2⟩ := forD_inv P xs (k + 1) s1 h1 (fun i s y hy hp => by
      have := hf (i + 1) s y (by simpa using hy) (by rw [show k + (i + 1) = k + 1 + i by omega]; exact hp)
      rwa [show k + (i + 1) + 1 = k + 1 + i + 1 by omega] at this)
    refine ⟨s2, ?_, by rw [List.length_cons, show k + (xs.length + 1) = k + 1 + xs.length by omega]; exact h2⟩
    unfold forD
    rw [e1]
    exact e2
theorem forD_all {f : σ → α → Option (Fl σ σ ρ ε)} (P : σ → Prop) (xs : List α) (s : σ) (h : P s) (hf : ∀ s, ∀ y ∈ xs, P s → ∃ s', f s y = some (.nx s') ∧ P s') : ∃ s', forD (β := β) xs f s = some (.nx s') ∧ P s' :=
  forD_inv (fun _ => P) xs 0 s h fun i s y hy hp => hf s y (List.mem_of_getElem? hy) hp
theorem forD_unit {f : Unit → α → Option (Fl Unit Unit ρ ε)} (xs : List α) (hf : ∀ y ∈ xs, f () y = some (.nx ())) : forD (β := β) xs f () = some (.nx ()) := by
  obtain ⟨s', e, _⟩ := forD_all (β := β) (f := f) (fun _ => True) xs () trivial fun s y hy _ => ⟨(), hf y hy, trivial⟩
  exact e
end
section
variable {α β : Type}
theorem ixN_nat {n j : Nat} (h : j < n) : ixN n (j : Int) = some j := by
  unfold ixN
  rw [if_pos (by omega), if_pos (by omega)]; simp
theorem atI_nt {xs : List α} {j : Nat} {x : α} (h : xs[j]? = some x) : atI xs (j : Int) = some x := by
  unfold atI
  rw [ixN_nat (List.getElem?_eq_some_iff.mp h).1]; exact h
theorem cat_ok {xs ys : List α} (h : xs.length + ys.length ≤ 100000) : catL xs ys = some (xs ++ ys) := by
  unfold catL
  rw [if_pos (by have := sizeLine_eq; omega)]
theorem rangeI_mem {a b y : Int} : y ∈ rangeI a b ↔ a ≤ y ∧ y < b := by
  unfold rangeI
  simp only [List.mem_map, List.mem_range]
  constructor
  · rintro ⟨k, hk, rfl⟩; omega
  · rintro ⟨h1, h2⟩; exact ⟨(y - a).toNat, by omega, by omega⟩
theorem mod_ok {a b : Int} (h : 0 < b) : modI a b = some (a % b) := by unfold modI; rw [if_pos h]
theorem div_ok {a b : Int} (h : 0 < b) (h2 : b ≤ 100000) : divI a b = some (a / b) := by
  have h3 : b.natAbs < 2 ^ 17 := by omega
  have h4 : b.natAbs.log2 < 17 := (Nat.log2_lt (n := b.natAbs) (k := 17) (by omega)).mpr h3
  unfold divI
  rw [if_pos ⟨h, by omega⟩]
theorem nd_inj {xs : List α} (nd : xs.Nodup) {i j : Nat} {x : α} (h : xs[i]? = some x) (h' : xs[j]? = some x) : i = j := by
  obtain ⟨hi, ei⟩ := List.getElem?_eq_some_iff.mp h
  obtain ⟨hj, ej⟩ := List.getElem?_eq_some_iff.mp h'
  have pw := List.pairwise_iff_getElem.mp nd
  rcases Nat.lt_trichotomy i j with z | z | z
  · exact absurd (ei.trans ej.symm) (pw i j hi hj z)
  · exact z
  · exact absurd (ej.trans ei.symm) (pw j i hj hi z)
end
open PySem PySem.Spec PyProof.Rows L2
abbrev Turns := List (List Int)
def row (t : Turns) (p : Int) : List Int := (t[p.toNat]?).getD []
def InR (t : Turns) (p : Int) : Prop := 0 ≤ p ∧ p < (t.length : Int)
structure Valid (t : Turns) : Prop where
  pos : 1 ≤ t.length
  big : t.length ≤ 14
  rg : ∀ p q, InR t p → q ∈ row t p → InR t q
  ns : ∀ p, InR t p → p ∉ row t p
  nd : ∀ p, InR t p → (row t p).Nodup
  sy : ∀ p q, InR t p → q ∈ row t p → p ∈ row t q
  cn : ∀ r, InR t r → ∀ S : Int → Prop, S r → (∀ p q, InR t p → S p → q ∈ row t p → S q) → ∀ p, InR t p → S p
section
variable {t t' : Turns}
theorem Valid.zero (v : Valid t) : InR t 0 := ⟨by omega, by have := v.pos; omega⟩
theorem Valid.ne (v : Valid t) (h : 1 < t.length) {p : Int} (hp : InR t p) : row t p ≠ [] := fun e => by
  have all := v.cn p hp (fun q => q = p) rfl (fun a q ha hs hq => by
    have hs : a = p := hs
    rw [hs, e] at hq; cases hq)
  have h0 := all 0 ⟨by omega, by omega⟩
  have h1 := all 1 ⟨by omega, by omega⟩
  omega
theorem Valid.tie (v : Valid t) {p u : Int} (hp : InR t p) (hu : InR t u) (hup : u ≠ p) (hl' : t'.length = t.length) (ho : ∀ q, InR t q → q ≠ p → q ≠ u → row t' q = row t q)
    (hnp : (row t' p).Nodup) (hnu : (row t' u).Nodup) (hmp : ∀ x, x ∈ row t' p ↔ x = u ∨ x ∈ row t p) (hmu : ∀ x, x ∈ row t' u ↔ x = p ∨ x ∈ row t u) : Valid t' := by
  have inr : ∀ q, InR t' q ↔ InR t q := fun q => by unfold InR; rw [hl']
  have sub : ∀ q, InR t q → ∀ x, x ∈ row t q → x ∈ row t' q := fun q h x hx => by
    by_cases e : q = p
    · subst e; exact (hmp x).mpr (.inr hx)
    · by_cases e2 : q = u
      · subst e2; exact (hmu x).mpr (.inr hx)
      · rw [ho q h e e2]; exact hx
  have mem : ∀ q, InR t q → ∀ x, x ∈ row t' q → x ∈ row t q ∨ (q = p ∧ x = u) ∨ (q = u ∧ x = p) := fun q h x hx => by
    by_cases e : q = p
    · subst e; exact ((hmp x).mp hx).elim (fun z => .inr (.inl ⟨rfl, z⟩)) .inl
    · by_cases e2 : q = u
      · subst e2; exact ((hmu x).mp hx).elim (fun z => .inr (.inr ⟨rfl, z⟩)) .inl
      · rw [ho q h e e2] at hx; exact .inl hx
  refine ⟨by rw [hl']; exact v.pos, by rw [hl']; exact v.big, fun a q ha hq => ?_, fun a ha hq => ?_, fun a ha => ?_, fun a q ha hq => ?_, fun r hr0 S hs hc => ?_⟩
  · rw [inr] at ha ⊢
    rcases mem a ha q hq with z | ⟨_, z⟩ | ⟨_, z⟩
    · exact v.rg a q ha z
    · rw [z]; exact hu
    · rw [z]; exact hp
  · rw [inr] at ha
    rcases mem a ha a hq with z | ⟨z1, z2⟩ | ⟨z1, z2⟩
    · exact v.ns a ha z
    · exact hup (z2.symm.trans z1)
    · exact hup (z1.symm.trans z2)
  · rw [inr] at ha
    by_cases e : a = p
    · subst e; exact hnp
    · by_cases e2 : a = u
      · subst e2; exact hnu
      · rw [ho a ha e e2]; exact v.nd a ha
  · rw [inr] at ha
    rcases mem a ha q hq with z | ⟨z1, z2⟩ | ⟨z1, z2⟩
    · exact sub q (v.rg a q ha z) a (v.sy a q ha z)
    · rw [z2, z1]; exact (hmu p).mpr (.inl rfl)
    · rw [z2, z1]; exact (hmp u).mpr (.inl rfl)
  · intro q hq
    rw [inr] at hq hr0
    exact v.cn r hr0 S hs (fun a q ha hs hq => hc a q ((inr a).mpr ha) hs (sub a ha q hq)) q hq
end
theorem succI_inj {n i j : Nat} (hi : i < n) (hj : j < n) (h : (i + 1) % n = (j + 1) % n) : i = j := by
  by_cases e1 : i + 1 = n
  · by_cases e2 : j + 1 = n
    · omega
    · rw [e1, Nat.mod_self, Nat.mod_eq_of_lt (by omega)] at h; omega
  · by_cases e2 : j + 1 = n
    · rw [e2, Nat.mod_self, Nat.mod_eq_of_lt (by omega)] at h; omega
    · rw [Nat.mod_eq_of_lt (by omega), Nat.mod_eq_of_lt (by omega)] at h; omega
def Side (t : Turns) (s : Int × Int) : Prop := InR t s.1 ∧ s.2 ∈ row t s.1
def Nx (t : Turns) (s s' : Int × Int) : Prop := s'.1 = s.2 ∧ ∃ i : Nat, (row t s.2)[i]? = some s.1 ∧ (row t s.2)[(i + 1) % (row t s.2).length]? = some s'.2
section
variable {t : Turns}
theorem Nx.ex (v : Valid t) {s : Int × Int} (h : Side t s) : ∃ s', Nx t s s' ∧ Side t s' := by
  have hq := v.rg _ _ h.1 h.2
  obtain ⟨i, hi⟩ := List.mem_iff_getElem?.mp (v.sy _ _ h.1 h.2)
  have hl := (List.getElem?_eq_some_iff.mp hi).1
  have hm : (i + 1) % (row t s.2).length < (row t s.2).length := Nat.mod_lt _ (by omega)
  exact ⟨(s.2, (row t s.2)[(i + 1) % (row t s.2).length]), ⟨rfl, i, hi, List.getElem?_eq_getElem hm⟩, hq, List.getElem_mem hm⟩
theorem Nx.inj (v : Valid t) {s s' a : Int × Int} (h : Side t s) (h' : Side t s') (ha : Nx t s a) (hb : Nx t s' a) : s = s' := by
  obtain ⟨a1, i, a2, a3⟩ := ha
  obtain ⟨b1, j, b2, b3⟩ := hb
  have e2 : s.2 = s'.2 := a1.symm.trans b1
  rw [← e2] at b2 b3
  have nd := v.nd _ (v.rg _ _ h.1 h.2)
  obtain ⟨hi, ei⟩ := List.getElem?_eq_some_iff.mp a2
  obtain ⟨hj, ej⟩ := List.getElem?_eq_some_iff.mp b2
  have := nd_inj nd a3 b3
  have := succI_inj hi hj this
  subst this
  exact Prod.ext (ei.symm.trans ej) e2
open Classical in
noncomputable def nxt (t : Turns) (s : Int × Int) : Int × Int := if h : ∃ s', Nx t s s' then Classical.choose h else s
end
open PySem PySem.Spec PyProof.Rows L2
def Ends {ν β ρ ε : Type} (G : ρ → Prop) (m : Option (Fl ν β ρ ε)) : Prop := ∃ r, m = some (.rt r) ∧ G r
def Goes {ν β ρ ε : Type} (G : ν → Prop) (m : Option (Fl ν β ρ ε)) : Prop := ∃ r, m = some (.nx r) ∧ G r
section
variable {α γ σ ν ν' β ρ ε : Type} {G : ρ → Prop} {g : ν → Prop}
theorem Ends.ret {r : ρ} (h : G r) : Ends G (some (.rt r) : Option (Fl ν β ρ ε)) := ⟨r, rfl, h⟩
theorem Goes.nx {r : ν} (h : g r) : Goes g (some (.nx r) : Option (Fl ν β ρ ε)) := ⟨r, rfl, h⟩
theorem Ends.bind {o : Option γ} {a : γ} {f : γ → Option (Fl ν β ρ ε)} (h : o = some a) (h2 : Ends G (f a)) : Ends G (o.bind f) := by rw [h]; exact h2
theorem Goes.bind {o : Option γ} {a : γ} {f : γ → Option (Fl ν β ρ ε)} (h : o = some a) (h2 : Goes g (f a)) : Goes g (o.bind f) := by rw [h]; exact h2
theorem Ends.seq {P : ν' → Prop} {m : Option (Fl ν' β ρ ε)} {k : ν' → Option (Fl ν β ρ ε)} (h : Goes P m) (hk : ∀ s, P s → Ends G (k s)) : Ends G (bindD m k) := by
  obtain ⟨s, e, h⟩ := h
  rw [e]
  exact hk s h
theorem Goes.seq {P : ν' → Prop} {m : Option (Fl ν' β ρ ε)} {k : ν' → Option (Fl ν β ρ ε)} (h : Goes P m) (hk : ∀ s, P s → Goes g (k s)) : Goes g (bindD m k) := by
  obtain ⟨s, e, h⟩ := h
  rw [e]
  exact hk s h
theorem Goes.for {f : σ → α → Option (Fl σ σ ρ ε)} {xs : List α} {s : σ} (P : σ → Prop) (h : P s) (hf : ∀ s, ∀ y ∈ xs, P s → Goes P (f s y)) : Goes P (forD (β := β) xs f s) := by
  obtain ⟨s', e, h'⟩ := forD_all (β := β) P xs s h fun s y hy hp => hf s y hy hp
  exact ⟨s', e, h'⟩
theorem Goes.imp {g' : ν → Prop} {m : Option (Fl ν β ρ ε)} (h : Goes g m) (k : ∀ s, g s → g' s) : Goes g' m := let ⟨s, e, h⟩ := h; ⟨s, e, k s h⟩
theorem Ends.t {c : Prop} [Decidable c] {a b : Option (Fl ν β ρ ε)} (h : c) (h2 : Ends G a) : Ends G (if c then a else b) := by rw [if_pos h]; exact h2
theorem Ends.f {c : Prop} [Decidable c] {a b : Option (Fl ν β ρ ε)} (h : ¬ c) (h2 : Ends G b) : Ends G (if c then a else b) := by rw [if_neg h]; exact h2
theorem Goes.t {c : Prop} [Decidable c] {a b : Option (Fl ν β ρ ε)} (h : c) (h2 : Goes g a) : Goes g (if c then a else b) := by rw [if_pos h]; exact h2
theorem Goes.f {c : Prop} [Decidable c] {a b : Option (Fl ν β ρ ε)} (h : ¬ c) (h2 : Goes g b) : Goes g (if c then a else b) := by rw [if_neg h]; exact h2
theorem Ends.out {m : Option (Fl ν β ρ ε)} (h : Ends G m) : ∃ r, retD m = some r ∧ G r := let ⟨r, e, h⟩ := h; ⟨r, by rw [e]; rfl, h⟩
theorem Goes.out {m : Option (Fl ν β ρ ε)} (h : Goes g m) : ∃ r, endD m = some r ∧ g r := let ⟨r, e, h⟩ := h; ⟨r, by rw [e]; rfl, h⟩
end
open PySem PySem.Spec PyProof.Rows L2
open Rp (rp)
abbrev Pg : Program := PySem.Challenge.pw_mapdye_k18_refusals_made
def topS (i : Nat) : Stmt := Pg.main.body.getD i (.Pass ⟨0, 0, 0, 0⟩)
abbrev s_NoWeb___init__ : Stmt := (inClass (topS 4) 0)
abbrev s_NotPlane___init__ : Stmt := (inClass (topS 5) 0)
abbrev s_Alike___init__ : Stmt := (inClass (topS 9) 0)
abbrev s_TooFew___init__ : Stmt := (inClass (topS 10) 0)
abbrev s_NotFree___init__ : Stmt := (inClass (topS 11) 0)
abbrev s_NotFilled___init__ : Stmt := (inClass (topS 12) 0)
abbrev s_Odd___init__ : Stmt := (inClass (topS 13) 0)
abbrev s_Bridge___init__ : Stmt := (inClass (topS 14) 0)
abbrev s_Shared___init__ : Stmt := (inClass (topS 15) 0)
abbrev s_law_cell : Stmt := (topS 17)
abbrev s_law_two : Stmt := (topS 18)
abbrev s_law_fault : Stmt := (topS 19)
abbrev s_law_count : Stmt := (topS 20)
abbrev s_law_kinds : Stmt := (topS 21)
abbrev s_law_same : Stmt := (topS 22)
abbrev s_law : Stmt := (topS 23)
abbrev nsL : List Str := ["NoWeb", "NotPlane", "Alike", "TooFew", "NotFree", "NotFilled", "Odd", "Bridge", "Shared", "TooMany", "TooSmall", "NoText", "NoCorner", "NoRing"]
abbrev csL : List Str := ["NoWeb", "NotPlane", "Alike", "TooFew", "NotFree", "NotFilled", "Odd", "Bridge", "Shared", "TooMany", "TooSmall", "NoText", "NoCorner", "NoRing", "MapError"]
abbrev osL : List Str := []
structure Facts (K : Frag) (mg : Str → Option Value) where
  f_NoWeb___init__ : Addr
  fd_NoWeb___init__ : FuncData
  F_NoWeb___init__ : Fun K "__init__" "NoWeb.__init__" s_NoWeb___init__ f_NoWeb___init__ fd_NoWeb___init__
  b_NoWeb___init__ : L2.Binds K fd_NoWeb___init__ ["self", "fault"] []
  f_NotPlane___init__ : Addr
  fd_NotPlane___init__ : FuncData
  F_NotPlane___init__ : Fun K "__init__" "NotPlane.__init__" s_NotPlane___init__ f_NotPlane___init__ fd_NotPlane___init__
  b_NotPlane___init__ : L2.Binds K fd_NotPlane___init__ ["self", "counted"] []
  f_Alike___init__ : Addr
  fd_Alike___init__ : FuncData
  F_Alike___init__ : Fun K "__init__" "Alike.__init__" s_Alike___init__ f_Alike___init__ fd_Alike___init__
  b_Alike___init__ : L2.Binds K fd_Alike___init__ ["self", "one", "other"] []
  f_TooFew___init__ : Addr
  fd_TooFew___init__ : FuncData
  F_TooFew___init__ : Fun K "__init__" "TooFew.__init__" s_TooFew___init__ f_TooFew___init__ fd_TooFew___init__
  b_TooFew___init__ : L2.Binds K fd_TooFew___init__ ["self", "point"] []
  f_NotFree___init__ : Addr
  fd_NotFree___init__ : FuncData
  F_NotFree___init__ : Fun K "__init__" "NotFree.__init__" s_NotFree___init__ f_NotFree___init__ fd_NotFree___init__
  b_NotFree___init__ : L2.Binds K fd_NotFree___init__ ["self", "point"] []
  f_NotFilled___init__ : Addr
  fd_NotFilled___init__ : FuncData
  F_NotFilled___init__ : Fun K "__init__" "NotFilled.__init__" s_NotFilled___init__ f_NotFilled___init__ fd_NotFilled___init__
  b_NotFilled___init__ : L2.Binds K fd_NotFilled___init__ ["self", "land"] []
  f_Odd___init__ : Addr
  fd_Odd___init__ : FuncData
  F_Odd___init__ : Fun K "__init__" "Odd.__init__" s_Odd___init__ f_Odd___init__ fd_Odd___init__
  b_Odd___init__ : L2.Binds K fd_Odd___init__ ["self", "point"] []
  f_Bridge___init__ : Addr
  fd_Bridge___init__ : FuncData
  F_Bridge___init__ : Fun K "__init__" "Bridge.__init__" s_Bridge___init__ f_Bridge___init__ fd_Bridge___init__
  b_Bridge___init__ : L2.Binds K fd_Bridge___init__ ["self", "tie"] []
  f_Shared___init__ : Addr
  fd_Shared___init__ : FuncData
  F_Shared___init__ : Fun K "__init__" "Shared.__init__" s_Shared___init__ f_Shared___init__ fd_Shared___init__
  b_Shared___init__ : L2.Binds K fd_Shared___init__ ["self", "one", "other"] []
  f_law_cell : Addr
  fd_law_cell : FuncData
  F_law_cell : Fun K "_law_cell" "_law_cell" s_law_cell f_law_cell fd_law_cell
  b_law_cell : L2.Binds K fd_law_cell ["_law_script", "_law_k"] []
  g_law_cell : mg "_law_cell" = some (.ref f_law_cell)
  f_law_two : Addr
  fd_law_two : FuncData
  F_law_two : Fun K "_law_two" "_law_two" s_law_two f_law_two fd_law_two
  b_law_two : L2.Binds K fd_law_two ["_law_cell_here", "_law_many"] []
  g_law_two : mg "_law_two" = some (.ref f_law_two)
  f_law_fault : Addr
  fd_law_fault : FuncData
  F_law_fault : Fun K "_law_fault" "_law_fault" s_law_fault f_law_fault fd_law_fault
  b_law_fault : L2.Binds K fd_law_fault ["_law_cell_here", "_law_two_here"] []
  g_law_fault : mg "_law_fault" = some (.ref f_law_fault)
  f_law_count : Addr
  fd_law_count : FuncData
  F_law_count : Fun K "_law_count" "_law_count" s_law_count f_law_count fd_law_count
  b_law_count : L2.Binds K fd_law_count ["_law_cell_here"] []
  g_law_count : mg "_law_count" = some (.ref f_law_count)
  f_law_kinds : Addr
  fd_law_kinds : FuncData
  F_law_kinds : Fun K "_law_kinds" "_law_kinds" s_law_kinds f_law_kinds fd_law_kinds
  b_law_kinds : L2.Binds K fd_law_kinds ["_law_e"] []
  g_law_kinds : mg "_law_kinds" = some (.ref f_law_kinds)
  f_law_same : Addr
  fd_law_same : FuncData
  F_law_same : Fun K "_law_same" "_law_same" s_law_same f_law_same fd_law_same
  b_law_same : L2.Binds K fd_law_same ["_law_found", "_law_due"] []
  g_law_same : mg "_law_same" = some (.ref f_law_same)
  f_law : Addr
  fd_law : FuncData
  F_law : Fun K "law" "law" s_law f_law fd_law
  b_law : L2.Binds K fd_law ["_law_script"] []
  g_law : mg "law" = some (.ref f_law)
  z_ValueError : mg "ValueError" = none
  z_all : mg "all" = none
  z_bool : mg "bool" = none
  z_enumerate : mg "enumerate" = none
  z_isinstance : mg "isinstance" = none
  z_range : mg "range" = none
  EX : ExF K mg nsL csL osL
  EF_NoWeb : ErF K mg "NoWeb" f_NoWeb___init__ ["fault"]
  EF_NotPlane : ErF K mg "NotPlane" f_NotPlane___init__ ["counted"]
  EF_Alike : ErF K mg "Alike" f_Alike___init__ ["one", "other"]
  EF_TooFew : ErF K mg "TooFew" f_TooFew___init__ ["point"]
  EF_NotFree : ErF K mg "NotFree" f_NotFree___init__ ["point"]
  EF_NotFilled : ErF K mg "NotFilled" f_NotFilled___init__ ["land"]
  EF_Odd : ErF K mg "Odd" f_Odd___init__ ["point"]
  EF_Bridge : ErF K mg "Bridge" f_Bridge___init__ ["tie"]
  EF_Shared : ErF K mg "Shared" f_Shared___init__ ["one", "other"]
  EO_TooMany : ErOk K mg "TooMany"
  EO_TooSmall : ErOk K mg "TooSmall"
  EO_NoText : ErOk K mg "NoText"
  EO_NoCorner : ErOk K mg "NoCorner"
  EO_NoRing : ErOk K mg "NoRing"
  BI : BaseI K mg "MapError"
variable {w : World} {K : Frag} {mg : Str → Option Value} {base : Heap}
abbrev N_NoWeb___init__ : List Str := ["self", "fault"]
abbrev sc_NoWeb___init__ : Scope := defScope s_NoWeb___init__
theorem scp_NoWeb___init__ : FnScope N_NoWeb___init__ ["self", "fault"] sc_NoWeb___init__ := ⟨rfl, rfl, rfl, by decide +kernel, rfl, by decide +kernel, by decide +kernel⟩
theorem ok_NoWeb___init__ (T : Facts K mg) : FnOk Pg w K mg base CX0 1 T.f_NoWeb___init__ T.fd_NoWeb___init__ ["self", "fault"] (spI1 K "fault") := by
  refine T.F_NoWeb___init__.ok scp_NoWeb___init__ (fun vs H Q E ⟨a, C, y, e, _⟩ => by rw [e]; rfl) fun cdv A outer sh H vs Q E hr ⟨a, C, y, e, T1, hno, ha, q⟩ => ?_
  subst e
  exact ⟨_, pss_cons (ps_expr (pe_baseinit T.BI rfl (pa_cons (pe_var (i := 0) rfl (Or.inl rfl)) (pa_cons pe_str pa_nil)))) (pss_one (ps_ost (f := "fault") (pe_var (i := 0) rfl (Or.inl rfl)) (pe_var (i := 1) rfl (Or.inl rfl)))), .ref a, rfl, a, C, [.str _], rfl, by simp, T1, ha, y, rfl, .ref a, rfl, a, C, rfl, T1, hno, .inl ⟨ha, fun dx h1 h2 => q dx h1 h2⟩⟩
abbrev N_NotPlane___init__ : List Str := ["self", "counted"]
abbrev sc_NotPlane___init__ : Scope := defScope s_NotPlane___init__
theorem scp_NotPlane___init__ : FnScope N_NotPlane___init__ ["self", "counted"] sc_NotPlane___init__ := ⟨rfl, rfl, rfl, by decide +kernel, rfl, by decide +kernel, by decide +kernel⟩
theorem ok_NotPlane___init__ (T : Facts K mg) : FnOk Pg w K mg base CX0 1 T.f_NotPlane___init__ T.fd_NotPlane___init__ ["self", "counted"] (spI1 K "counted") := by
  refine T.F_NotPlane___init__.ok scp_NotPlane___init__ (fun vs H Q E ⟨a, C, y, e, _⟩ => by rw [e]; rfl) fun cdv A outer sh H vs Q E hr ⟨a, C, y, e, T1, hno, ha, q⟩ => ?_
  subst e
  exact ⟨_, pss_cons (ps_expr (pe_baseinit T.BI rfl (pa_cons (pe_var (i := 0) rfl (Or.inl rfl)) (pa_cons pe_str pa_nil)))) (pss_one (ps_ost (f := "counted") (pe_var (i := 0) rfl (Or.inl rfl)) (pe_var (i := 1) rfl (Or.inl rfl)))), .ref a, rfl, a, C, [.str _], rfl, by simp, T1, ha, y, rfl, .ref a, rfl, a, C, rfl, T1, hno, .inl ⟨ha, fun dx h1 h2 => q dx h1 h2⟩⟩
abbrev N_Alike___init__ : List Str := ["self", "one", "other"]
abbrev sc_Alike___init__ : Scope := defScope s_Alike___init__
theorem scp_Alike___init__ : FnScope N_Alike___init__ ["self", "one", "other"] sc_Alike___init__ := ⟨rfl, rfl, rfl, by decide +kernel, rfl, by decide +kernel, by decide +kernel⟩
theorem ok_Alike___init__ (T : Facts K mg) : FnOk Pg w K mg base CX0 1 T.f_Alike___init__ T.fd_Alike___init__ ["self", "one", "other"] (spI2 K "one" "other") := by
  refine T.F_Alike___init__.ok scp_Alike___init__ (fun vs H Q E ⟨a, C, x, y, e, _⟩ => by rw [e]; rfl) fun cdv A outer sh H vs Q E hr ⟨a, C, v1, v2, e, T1, hno, hno2, ha, q⟩ => ?_
  subst e
  exact ⟨_, pss_cons (ps_expr (pe_baseinit T.BI rfl (pa_cons (pe_var (i := 0) rfl (Or.inl rfl)) (pa_cons pe_str pa_nil)))) (pss_cons (ps_ost (f := "one") (pe_var (i := 0) rfl (Or.inl rfl)) (pe_var (i := 1) rfl (Or.inl rfl))) (pss_one (ps_ost (f := "other") (pe_var (i := 0) rfl (Or.inl rfl)) (pe_var (i := 2) rfl (Or.inl rfl))))), .ref a, rfl, a, C, [.str _], rfl, by simp, T1, ha, v1, rfl, .ref a, rfl, a, C, rfl, T1, hno, .inl ⟨ha, fun dx h1 h2 =>
    ⟨v2, rfl, .ref a, rfl, a, C, rfl, T1, hno2, .inr ⟨dx, [("one", v1)], by rw [upd_same], by rw [upd_ne h2, upd_same], by simp, q dx h1 h2⟩⟩⟩⟩
abbrev N_TooFew___init__ : List Str := ["self", "point"]
abbrev sc_TooFew___init__ : Scope := defScope s_TooFew___init__
theorem scp_TooFew___init__ : FnScope N_TooFew___init__ ["self", "point"] sc_TooFew___init__ := ⟨rfl, rfl, rfl, by decide +kernel, rfl, by decide +kernel, by decide +kernel⟩
theorem ok_TooFew___init__ (T : Facts K mg) : FnOk Pg w K mg base CX0 1 T.f_TooFew___init__ T.fd_TooFew___init__ ["self", "point"] (spI1 K "point") := by
  refine T.F_TooFew___init__.ok scp_TooFew___init__ (fun vs H Q E ⟨a, C, y, e, _⟩ => by rw [e]; rfl) fun cdv A outer sh H vs Q E hr ⟨a, C, y, e, T1, hno, ha, q⟩ => ?_
  subst e
  exact ⟨_, pss_cons (ps_expr (pe_baseinit T.BI rfl (pa_cons (pe_var (i := 0) rfl (Or.inl rfl)) (pa_cons pe_str pa_nil)))) (pss_one (ps_ost (f := "point") (pe_var (i := 0) rfl (Or.inl rfl)) (pe_var (i := 1) rfl (Or.inl rfl)))), .ref a, rfl, a, C, [.str _], rfl, by simp, T1, ha, y, rfl, .ref a, rfl, a, C, rfl, T1, hno, .inl ⟨ha, fun dx h1 h2 => q dx h1 h2⟩⟩
abbrev N_NotFree___init__ : List Str := ["self", "point"]
abbrev sc_NotFree___init__ : Scope := defScope s_NotFree___init__
theorem scp_NotFree___init__ : FnScope N_NotFree___init__ ["self", "point"] sc_NotFree___init__ := ⟨rfl, rfl, rfl, by decide +kernel, rfl, by decide +kernel, by decide +kernel⟩
theorem ok_NotFree___init__ (T : Facts K mg) : FnOk Pg w K mg base CX0 1 T.f_NotFree___init__ T.fd_NotFree___init__ ["self", "point"] (spI1 K "point") := by
  refine T.F_NotFree___init__.ok scp_NotFree___init__ (fun vs H Q E ⟨a, C, y, e, _⟩ => by rw [e]; rfl) fun cdv A outer sh H vs Q E hr ⟨a, C, y, e, T1, hno, ha, q⟩ => ?_
  subst e
  exact ⟨_, pss_cons (ps_expr (pe_baseinit T.BI rfl (pa_cons (pe_var (i := 0) rfl (Or.inl rfl)) (pa_cons pe_str pa_nil)))) (pss_one (ps_ost (f := "point") (pe_var (i := 0) rfl (Or.inl rfl)) (pe_var (i := 1) rfl (Or.inl rfl)))), .ref a, rfl, a, C, [.str _], rfl, by simp, T1, ha, y, rfl, .ref a, rfl, a, C, rfl, T1, hno, .inl ⟨ha, fun dx h1 h2 => q dx h1 h2⟩⟩
abbrev N_NotFilled___init__ : List Str := ["self", "land"]
abbrev sc_NotFilled___init__ : Scope := defScope s_NotFilled___init__
theorem scp_NotFilled___init__ : FnScope N_NotFilled___init__ ["self", "land"] sc_NotFilled___init__ := ⟨rfl, rfl, rfl, by decide +kernel, rfl, by decide +kernel, by decide +kernel⟩
theorem ok_NotFilled___init__ (T : Facts K mg) : FnOk Pg w K mg base CX0 1 T.f_NotFilled___init__ T.fd_NotFilled___init__ ["self", "land"] (spI1 K "land") := by
  refine T.F_NotFilled___init__.ok scp_NotFilled___init__ (fun vs H Q E ⟨a, C, y, e, _⟩ => by rw [e]; rfl) fun cdv A outer sh H vs Q E hr ⟨a, C, y, e, T1, hno, ha, q⟩ => ?_
  subst e
  exact ⟨_, pss_cons (ps_expr (pe_baseinit T.BI rfl (pa_cons (pe_var (i := 0) rfl (Or.inl rfl)) (pa_cons pe_str pa_nil)))) (pss_one (ps_ost (f := "land") (pe_var (i := 0) rfl (Or.inl rfl)) (pe_var (i := 1) rfl (Or.inl rfl)))), .ref a, rfl, a, C, [.str _], rfl, by simp, T1, ha, y, rfl, .ref a, rfl, a, C, rfl, T1, hno, .inl ⟨ha, fun dx h1 h2 => q dx h1 h2⟩⟩
abbrev N_Odd___init__ : List Str := ["self", "point"]
abbrev sc_Odd___init__ : Scope := defScope s_Odd___init__
theorem scp_Odd___init__ : FnScope N_Odd___init__ ["self", "point"] sc_Odd___init__ := ⟨rfl, rfl, rfl, by decide +kernel, rfl, by decide +kernel, by decide +kernel⟩
theorem ok_Odd___init__ (T : Facts K mg) : FnOk Pg w K mg base CX0 1 T.f_Odd___init__ T.fd_Odd___init__ ["self", "point"] (spI1 K "point") := by
  refine T.F_Odd___init__.ok scp_Odd___init__ (fun vs H Q E ⟨a, C, y, e, _⟩ => by rw [e]; rfl) fun cdv A outer sh H vs Q E hr ⟨a, C, y, e, T1, hno, ha, q⟩ => ?_
  subst e
  exact ⟨_, pss_cons (ps_expr (pe_baseinit T.BI rfl (pa_cons (pe_var (i := 0) rfl (Or.inl rfl)) (pa_cons pe_str pa_nil)))) (pss_one (ps_ost (f := "point") (pe_var (i := 0) rfl (Or.inl rfl)) (pe_var (i := 1) rfl (Or.inl rfl)))), .ref a, rfl, a, C, [.str _], rfl, by simp, T1, ha, y, rfl, .ref a, rfl, a, C, rfl, T1, hno, .inl ⟨ha, fun dx h1 h2 => q dx h1 h2⟩⟩
abbrev N_Bridge___init__ : List Str := ["self", "tie"]
abbrev sc_Bridge___init__ : Scope := defScope s_Bridge___init__
theorem scp_Bridge___init__ : FnScope N_Bridge___init__ ["self", "tie"] sc_Bridge___init__ := ⟨rfl, rfl, rfl, by decide +kernel, rfl, by decide +kernel, by decide +kernel⟩
theorem ok_Bridge___init__ (T : Facts K mg) : FnOk Pg w K mg base CX0 1 T.f_Bridge___init__ T.fd_Bridge___init__ ["self", "tie"] (spI1 K "tie") := by
  refine T.F_Bridge___init__.ok scp_Bridge___init__ (fun vs H Q E ⟨a, C, y, e, _⟩ => by rw [e]; rfl) fun cdv A outer sh H vs Q E hr ⟨a, C, y, e, T1, hno, ha, q⟩ => ?_
  subst e
  exact ⟨_, pss_cons (ps_expr (pe_baseinit T.BI rfl (pa_cons (pe_var (i := 0) rfl (Or.inl rfl)) (pa_cons pe_str pa_nil)))) (pss_one (ps_ost (f := "tie") (pe_var (i := 0) rfl (Or.inl rfl)) (pe_var (i := 1) rfl (Or.inl rfl)))), .ref a, rfl, a, C, [.str _], rfl, by simp, T1, ha, y, rfl, .ref a, rfl, a, C, rfl, T1, hno, .inl ⟨ha, fun dx h1 h2 => q dx h1 h2⟩⟩
abbrev N_Shared___init__ : List Str := ["self", "one", "other"]
abbrev sc_Shared___init__ : Scope := defScope s_Shared___init__
theorem scp_Shared___init__ : FnScope N_Shared___init__ ["self", "one", "other"] sc_Shared___init__ := ⟨rfl, rfl, rfl, by decide +kernel, rfl, by decide +kernel, by decide +kernel⟩
theorem ok_Shared___init__ (T : Facts K mg) : FnOk Pg w K mg base CX0 1 T.f_Shared___init__ T.fd_Shared___init__ ["self", "one", "other"] (spI2 K "one" "other") := by
  refine T.F_Shared___init__.ok scp_Shared___init__ (fun vs H Q E ⟨a, C, x, y, e, _⟩ => by rw [e]; rfl) fun cdv A outer sh H vs Q E hr ⟨a, C, v1, v2, e, T1, hno, hno2, ha, q⟩ => ?_
  subst e
  exact ⟨_, pss_cons (ps_expr (pe_baseinit T.BI rfl (pa_cons (pe_var (i := 0) rfl (Or.inl rfl)) (pa_cons pe_str pa_nil)))) (pss_cons (ps_ost (f := "one") (pe_var (i := 0) rfl (Or.inl rfl)) (pe_var (i := 1) rfl (Or.inl rfl))) (pss_one (ps_ost (f := "other") (pe_var (i := 0) rfl (Or.inl rfl)) (pe_var (i := 2) rfl (Or.inl rfl))))), .ref a, rfl, a, C, [.str _], rfl, by simp, T1, ha, v1, rfl, .ref a, rfl, a, C, rfl, T1, hno, .inl ⟨ha, fun dx h1 h2 =>
    ⟨v2, rfl, .ref a, rfl, a, C, rfl, T1, hno2, .inr ⟨dx, [("one", v1)], by rw [upd_same], by rw [upd_ne h2, upd_same], by simp, q dx h1 h2⟩⟩⟩⟩
abbrev N_law_cell : List Str := ["_law_script", "_law_k"]
abbrev sc_law_cell : Scope := defScope s_law_cell
theorem scp_law_cell : FnScope N_law_cell ["_law_script", "_law_k"] sc_law_cell := ⟨rfl, rfl, rfl, by decide +kernel, rfl, by decide +kernel, by decide +kernel⟩
noncomputable def m_law_cell (p0 : Script) (p1 : Int) : Option (Fl (Unit) Empty (Int) Empty) :=
  ((catL (cut p0.ns (some p1) (some (p1 + (1 : Int)))) [(0 : Int)]).bind fun t1 => ((atI t1 (0 : Int)).bind fun t2 => (some (.rt (t2 : Int)))))
noncomputable def f_law_cell (p0 : Script) (p1 : Int) : Option (Int) := retD (m_law_cell p0 p1)
abbrev sp_law_cell (K : Frag) : Sp := spF (K := K) (ι := Script × Int) (ν := Unit) (ρ := Int) (ε := Empty) (fun (i : Script × Int) => [(bo (i.1 : Script)), (fz (i.2 : Int))]) (fun i => m_law_cell i.1 i.2) (fun i s => [un, un]) (fun i r => fz (r : Int)) (fun i r => []) (noX (K := K))
theorem ok_law_cell (T : Facts K mg) : FnOk Pg w K mg base CX0 1 T.f_law_cell T.fd_law_cell ["_law_script", "_law_k"] (sp_law_cell K) := by
  refine fn_ok T.F_law_cell scp_law_cell (fun i => rfl) fun cdv A outer s H E i hr => ?_
  have hu := hr.units
  have hu1 := units100 hr
  have sc := scp_law_cell
  obtain ⟨p0, p1⟩ := i
  unfold m_law_cell
  exact Bk.bnd fun t1 ht1 => Bk.bnd fun t2 ht2 => Bk.ret (Ev.m (Ev.ix (Ev.lla (Ev.vlo (EvN.ev (EvN.cat (Ev.vlo (EvN.ev (EvN.slice (Ev.lasc (T := .fz) (Ev.las (Ev.nmB 0))) (EvP.som (Ev.nmS (S := .pk) 1)) (EvP.som (Ev.add (Ev.nmS (S := .pk) 1) (Ev.int (S := .pk))))))) (Ev.vlo (EvN.ev (EvN.lst (S := .fz) (EvA.cons (Ev.sc (T := .fz) (Ev.int (S := .pk))) EvA.nil)))) ht1)))) (Ev.int (S := .pk)) ht2)) trivial
abbrev N_law_two : List Str := ["_law_cell_here", "_law_many", "_law_least"]
abbrev sc_law_two : Scope := defScope s_law_two
theorem scp_law_two : FnScope N_law_two ["_law_cell_here", "_law_many"] sc_law_two := ⟨rfl, rfl, rfl, by decide +kernel, rfl, by decide +kernel, by decide +kernel⟩
noncomputable def m_law_two (p0 : Int) (p1 : Int) : Option (Fl (Unit) Empty ((Int × Int)) Empty) :=
  ((modI p0 (p1 - (1 : Int))).bind fun t1 => ((divI p0 (p1 - (1 : Int))).bind fun t2 => ((modI t2 ((p1 - (1 : Int)) - t1)).bind fun t3 => (some (.rt ((t1, ((t1 + (1 : Int)) + t3)) : (Int × Int)))))))
noncomputable def f_law_two (p0 : Int) (p1 : Int) : Option ((Int × Int)) := retD (m_law_two p0 p1)
abbrev sp_law_two (K : Frag) : Sp := spF (K := K) (ι := Int × Int) (ν := Unit) (ρ := (Int × Int)) (ε := Empty) (fun (i : Int × Int) => [(fz (i.1 : Int)), (fz (i.2 : Int))]) (fun i => m_law_two i.1 i.2) (fun i s => [un, un, un]) (fun i r => fz (r : (Int × Int))) (fun i r => []) (noX (K := K))
theorem ok_law_two (T : Facts K mg) : FnOk Pg w K mg base CX0 1 T.f_law_two T.fd_law_two ["_law_cell_here", "_law_many"] (sp_law_two K) := by
  refine fn_ok T.F_law_two scp_law_two (fun i => rfl) fun cdv A outer s H E i hr => ?_
  have hu := hr.units
  have hu1 := units100 hr
  have sc := scp_law_two
  obtain ⟨p0, p1⟩ := i
  unfold m_law_two
  exact Bk.bnd fun t1 ht1 => Bk.asgn 2 sc.nd (Ev.m (Ev.sc (T := .fz) (Ev.mod (Ev.nmS (S := .pk) 0) (Ev.sub (Ev.nmS (S := .pk) 1) (Ev.int (S := .pk))) ht1))) (Bk.bnd fun t2 ht2 => Bk.bnd fun t3 ht3 => Bk.ret (Ev.m (Ev.pair (EvH.cons (S := .fz) (Ev.sc (T := .fz) (Ev.nmS (S := .pk) 2)) (EvH.cons (S := .fz) (Ev.sc (T := .fz) (Ev.add (Ev.add (Ev.nmS (S := .pk) 2) (Ev.int (S := .pk))) (Ev.mod (Ev.div (Ev.nmS (S := .pk) 0) (Ev.sub (Ev.nmS (S := .pk) 1) (Ev.int (S := .pk))) ht2) (Ev.sub (Ev.sub (Ev.nmS (S := .pk) 1) (Ev.int (S := .pk))) (Ev.nmS (S := .pk) 2)) ht3))) EvH.nil)))) trivial)
abbrev N_law_fault : List Str := ["_law_cell_here", "_law_two_here", "_law_way", "_law_p", "_law_q"]
abbrev sc_law_fault : Scope := defScope s_law_fault
theorem scp_law_fault : FnScope N_law_fault ["_law_cell_here", "_law_two_here"] sc_law_fault := ⟨rfl, rfl, rfl, by decide +kernel, rfl, by decide +kernel, by decide +kernel⟩
noncomputable def m_law_fault (p0 : Int) (p1 : (Int × Int)) : Option (Fl (Unit) Empty ((T3 Str Int Int)) Empty) :=
  ((some (p0 % (5 : Int))).bind fun v1 => (if (decide (v1 = (0 : Int))) = true then (some (.rt ((T3.mk (Str.ofString "alien") p1.1 ((14 : Int) + ((p0 / (5 : Int)) % (1000 : Int)))) : (T3 Str Int Int)))) else (if (decide (v1 = (1 : Int))) = true then (some (.rt ((T3.mk (Str.ofString "self") p1.1 p1.1) : (T3 Str Int Int)))) else (if (decide (v1 = (2 : Int))) = true then (some (.rt ((T3.mk (Str.ofString "twice") p1.1 p1.2) : (T3 Str Int Int)))) else (if (decide (v1 = (3 : Int))) = true then (some (.rt ((T3.mk (Str.ofString "lone") p1.2 p1.1) : (T3 Str Int Int)))) else (some (.rt ((T3.mk (Str.ofString "apart") (0 : Int) p1.2) : (T3 Str Int Int)))))))))
noncomputable def f_law_fault (p0 : Int) (p1 : (Int × Int)) : Option ((T3 Str Int Int)) := retD (m_law_fault p0 p1)
abbrev sp_law_fault (K : Frag) : Sp := spF (K := K) (ι := Int × (Int × Int)) (ν := Unit) (ρ := (T3 Str Int Int)) (ε := Empty) (fun (i : Int × (Int × Int)) => [(fz (i.1 : Int)), (bo (i.2 : (Int × Int)))]) (fun i => m_law_fault i.1 i.2) (fun i s => [un, un, un, un, un]) (fun i r => fz (r : (T3 Str Int Int))) (fun i r => []) (noX (K := K))
theorem ok_law_fault (T : Facts K mg) : FnOk Pg w K mg base CX0 1 T.f_law_fault T.fd_law_fault ["_law_cell_here", "_law_two_here"] (sp_law_fault K) := by
  refine fn_ok T.F_law_fault scp_law_fault (fun i => rfl) fun cdv A outer s H E i hr => ?_
  have hu := hr.units
  have hu1 := units100 hr
  have sc := scp_law_fault
  obtain ⟨p0, p1⟩ := i
  unfold m_law_fault
  exact Bk.asgTv (Ev.nmB 1) (Tg.pair rfl (Tg.nameS 3 sc.nd) (Tg.nameS 4 sc.nd)) (Bk.bnd fun v1 hv1 => Bk.asgn 2 sc.nd (EvM.vfz (Ev.m (Ev.sc (T := .fz) (Ev.modC (Ev.nmS (S := .pk) 0) (Ev.int (S := .pk)) (by decide)))) (Option.some.inj hv1)) (Bk.iteR (EvC.t (EvC.eqs (Ev.nmS (S := .pk) 2) (Ev.int (S := .pk)))) (fun hb2 => Bk.ret (Ev.m (Ev.trip (EvH.cons (S := .fz) (Ev.sc (T := .fz) (Ev.str (S := .pk))) (EvH.cons (S := .fz) (Ev.sc (T := .fz) (Ev.nmS (S := .pk) 3)) (EvH.cons (S := .fz) (Ev.sc (T := .fz) (Ev.add (Ev.int (S := .pk)) (Ev.modC (Ev.divC (Ev.nmS (S := .pk) 0) (Ev.int (S := .pk)) (by decide)) (Ev.int (S := .pk)) (by decide)))) EvH.nil))))) trivial) (fun hb2 => Bk.iteR (EvC.t (EvC.eqs (Ev.nmS (S := .pk) 2) (Ev.int (S := .pk)))) (fun hb3 => Bk.ret (Ev.m (Ev.trip (EvH.cons (S := .fz) (Ev.sc (T := .fz) (Ev.str (S := .pk))) (EvH.cons (S := .fz) (Ev.sc (T := .fz) (Ev.nmS (S := .pk) 3)) (EvH.cons (S := .fz) (Ev.sc (T := .fz) (Ev.nmS (S := .pk) 3)) EvH.nil))))) trivial) (fun hb3 => Bk.iteR (EvC.t (EvC.eqs (Ev.nmS (S := .pk) 2) (Ev.int (S := .pk)))) (fun hb4 => Bk.ret (Ev.m (Ev.trip (EvH.cons (S := .fz) (Ev.sc (T := .fz) (Ev.str (S := .pk))) (EvH.cons (S := .fz) (Ev.sc (T := .fz) (Ev.nmS (S := .pk) 3)) (EvH.cons (S := .fz) (Ev.sc (T := .fz) (Ev.nmS (S := .pk) 4)) EvH.nil))))) trivial) (fun hb4 => Bk.iteR (EvC.t (EvC.eqs (Ev.nmS (S := .pk) 2) (Ev.int (S := .pk)))) (fun hb5 => Bk.ret (Ev.m (Ev.trip (EvH.cons (S := .fz) (Ev.sc (T := .fz) (Ev.str (S := .pk))) (EvH.cons (S := .fz) (Ev.sc (T := .fz) (Ev.nmS (S := .pk) 4)) (EvH.cons (S := .fz) (Ev.sc (T := .fz) (Ev.nmS (S := .pk) 3)) EvH.nil))))) trivial) (fun hb5 => Bk.ret (Ev.m (Ev.trip (EvH.cons (S := .fz) (Ev.sc (T := .fz) (Ev.str (S := .pk))) (EvH.cons (S := .fz) (Ev.sc (T := .fz) (Ev.int (S := .pk))) (EvH.cons (S := .fz) (Ev.sc (T := .fz) (Ev.nmS (S := .pk) 4)) EvH.nil))))) trivial))))))
abbrev N_law_count : List Str := ["_law_cell_here", "_law_first", "_law_last"]
abbrev sc_law_count : Scope := defScope s_law_count
theorem scp_law_count : FnScope N_law_count ["_law_cell_here"] sc_law_count := ⟨rfl, rfl, rfl, by decide +kernel, rfl, by decide +kernel, by decide +kernel⟩
noncomputable def m_law_count (p0 : Int) : Option (Fl (Unit) Empty ((T3 Int Int Int)) Empty) :=
  ((some ((1 : Int) + (p0 % (14 : Int)))).bind fun v1 => ((some ((1 : Int) + ((p0 / (14 : Int)) % (24 : Int)))).bind fun v2 => (some (.rt ((T3.mk v1 (((v1 + v2) - (1 : Int)) + ((p0 / (336 : Int)) % (30 : Int))) v2) : (T3 Int Int Int))))))
noncomputable def f_law_count (p0 : Int) : Option ((T3 Int Int Int)) := retD (m_law_count p0)
abbrev sp_law_count (K : Frag) : Sp := spF (K := K) (ι := Int) (ν := Unit) (ρ := (T3 Int Int Int)) (ε := Empty) (fun (i : Int) => [(fz (i : Int))]) (fun i => m_law_count i) (fun i s => [un, un, un]) (fun i r => fz (r : (T3 Int Int Int))) (fun i r => []) (noX (K := K))
theorem ok_law_count (T : Facts K mg) : FnOk Pg w K mg base CX0 1 T.f_law_count T.fd_law_count ["_law_cell_here"] (sp_law_count K) := by
  refine fn_ok T.F_law_count scp_law_count (fun i => rfl) fun cdv A outer s H E p0 hr => ?_
  have hu := hr.units
  have hu1 := units100 hr
  have sc := scp_law_count
  unfold m_law_count
  exact Bk.bnd fun v1 hv1 => Bk.asgn 1 sc.nd (EvM.vfz (Ev.m (Ev.sc (T := .fz) (Ev.add (Ev.int (S := .pk)) (Ev.modC (Ev.nmS (S := .pk) 0) (Ev.int (S := .pk)) (by decide))))) (Option.some.inj hv1)) (Bk.bnd fun v2 hv2 => Bk.asgn 2 sc.nd (EvM.vfz (Ev.m (Ev.sc (T := .fz) (Ev.add (Ev.int (S := .pk)) (Ev.modC (Ev.divC (Ev.nmS (S := .pk) 0) (Ev.int (S := .pk)) (by decide)) (Ev.int (S := .pk)) (by decide))))) (Option.some.inj hv2)) (Bk.ret (Ev.m (Ev.trip (EvH.cons (S := .fz) (Ev.sc (T := .fz) (Ev.nmS (S := .pk) 1)) (EvH.cons (S := .fz) (Ev.sc (T := .fz) (Ev.add (Ev.sub (Ev.add (Ev.nmS (S := .pk) 1) (Ev.nmS (S := .pk) 2)) (Ev.int (S := .pk))) (Ev.modC (Ev.divC (Ev.nmS (S := .pk) 0) (Ev.int (S := .pk)) (by decide)) (Ev.int (S := .pk)) (by decide)))) (EvH.cons (S := .fz) (Ev.sc (T := .fz) (Ev.nmS (S := .pk) 2)) EvH.nil))))) trivial))
abbrev N_law_kinds : List Str := ["_law_e", "_law_told"]
abbrev sc_law_kinds : Scope := defScope s_law_kinds
theorem scp_law_kinds : FnScope N_law_kinds ["_law_e"] sc_law_kinds := ⟨rfl, rfl, rfl, by decide +kernel, rfl, by decide +kernel, by decide +kernel⟩
noncomputable def m_law_kinds (p0 : Er) : Option (Fl (Unit) Empty ((List Bool)) Empty) :=
  ((isO nsL p0 "NoWeb").bind fun t1 => ((isO nsL p0 "NotPlane").bind fun t2 => ((isO nsL p0 "Alike").bind fun t3 => ((isO nsL p0 "TooFew").bind fun t4 => ((some [t1, t2, t3, t4]).bind fun v5 => ((isO nsL p0 "NotFree").bind fun t6 => ((isO nsL p0 "NotFilled").bind fun t7 => ((isO nsL p0 "Odd").bind fun t8 => ((isO nsL p0 "Bridge").bind fun t9 => ((catL v5 [t6, t7, t8, t9]).bind fun t10 => ((isO nsL p0 "Shared").bind fun t11 => ((isO nsL p0 "TooMany").bind fun t12 => ((isO nsL p0 "TooSmall").bind fun t13 => ((isO nsL p0 "NoText").bind fun t14 => ((catL t10 [t11, t12, t13, t14]).bind fun t15 => ((isO nsL p0 "NoCorner").bind fun t16 => ((isO nsL p0 "NoRing").bind fun t17 => ((catL t15 [t16, t17]).bind fun t18 => (some (.rt (t18 : (List Bool))))))))))))))))))))))
noncomputable def f_law_kinds (p0 : Er) : Option ((List Bool)) := retD (m_law_kinds p0)
abbrev sp_law_kinds (K : Frag) : Sp := spF (K := K) (ι := Er) (ν := Unit) (ρ := (List Bool)) (ε := Empty) (fun (i : Er) => [(bo (i : Er))]) (fun i => m_law_kinds i) (fun i s => [un, un]) (fun i r => fz (r : (List Bool))) (fun i r => []) (noX (K := K))
theorem ok_law_kinds (T : Facts K mg) : FnOk Pg w K mg base CX0 1 T.f_law_kinds T.fd_law_kinds ["_law_e"] (sp_law_kinds K) := by
  refine fn_ok T.F_law_kinds scp_law_kinds (fun i => rfl) fun cdv A outer s H E p0 hr => ?_
  have hu := hr.units
  have hu1 := units100 hr
  have sc := scp_law_kinds
  unfold m_law_kinds
  exact Bk.bnd fun t1 ht1 => Bk.bnd fun t2 ht2 => Bk.bnd fun t3 ht3 => Bk.bnd fun t4 ht4 => Bk.bnd fun v5 hv5 => Bk.asgn 1 sc.nd (EvM.vfz (Ev.m (EvN.ev (EvN.lst (S := .fz) (EvA.cons (Ev.sc (T := .fz) (Ev.isVo (T := .pk) T.EX ht1 (by decide) T.z_isinstance (Ev.nmB 0))) (EvA.cons (Ev.sc (T := .fz) (Ev.isVo (T := .pk) T.EX ht2 (by decide) T.z_isinstance (Ev.nmB 0))) (EvA.cons (Ev.sc (T := .fz) (Ev.isVo (T := .pk) T.EX ht3 (by decide) T.z_isinstance (Ev.nmB 0))) (EvA.cons (Ev.sc (T := .fz) (Ev.isVo (T := .pk) T.EX ht4 (by decide) T.z_isinstance (Ev.nmB 0))) EvA.nil))))))) (Option.some.inj hv5)) (Bk.bnd fun t6 ht6 => Bk.bnd fun t7 ht7 => Bk.bnd fun t8 ht8 => Bk.bnd fun t9 ht9 => Bk.bnd fun t10 ht10 => Bk.asgn 1 sc.nd (Ev.m (EvN.ev (EvN.cat (Ev.vlo (Ev.nm 1)) (Ev.vlo (EvN.ev (EvN.lst (S := .fz) (EvA.cons (Ev.sc (T := .fz) (Ev.isVo (T := .pk) T.EX ht6 (by decide) T.z_isinstance (Ev.nmB 0))) (EvA.cons (Ev.sc (T := .fz) (Ev.isVo (T := .pk) T.EX ht7 (by decide) T.z_isinstance (Ev.nmB 0))) (EvA.cons (Ev.sc (T := .fz) (Ev.isVo (T := .pk) T.EX ht8 (by decide) T.z_isinstance (Ev.nmB 0))) (EvA.cons (Ev.sc (T := .fz) (Ev.isVo (T := .pk) T.EX ht9 (by decide) T.z_isinstance (Ev.nmB 0))) EvA.nil))))))) ht10))) (Bk.bnd fun t11 ht11 => Bk.bnd fun t12 ht12 => Bk.bnd fun t13 ht13 => Bk.bnd fun t14 ht14 => Bk.bnd fun t15 ht15 => Bk.asgn 1 sc.nd (Ev.m (EvN.ev (EvN.cat (Ev.vlo (Ev.nm 1)) (Ev.vlo (EvN.ev (EvN.lst (S := .fz) (EvA.cons (Ev.sc (T := .fz) (Ev.isVo (T := .pk) T.EX ht11 (by decide) T.z_isinstance (Ev.nmB 0))) (EvA.cons (Ev.sc (T := .fz) (Ev.isVo (T := .pk) T.EX ht12 (by decide) T.z_isinstance (Ev.nmB 0))) (EvA.cons (Ev.sc (T := .fz) (Ev.isVo (T := .pk) T.EX ht13 (by decide) T.z_isinstance (Ev.nmB 0))) (EvA.cons (Ev.sc (T := .fz) (Ev.isVo (T := .pk) T.EX ht14 (by decide) T.z_isinstance (Ev.nmB 0))) EvA.nil))))))) ht15))) (Bk.bnd fun t16 ht16 => Bk.bnd fun t17 ht17 => Bk.bnd fun t18 ht18 => Bk.ret (Ev.m (EvN.ev (EvN.cat (Ev.vlo (Ev.nm 1)) (Ev.vlo (EvN.ev (EvN.lst (S := .fz) (EvA.cons (Ev.sc (T := .fz) (Ev.isVo (T := .pk) T.EX ht16 (by decide) T.z_isinstance (Ev.nmB 0))) (EvA.cons (Ev.sc (T := .fz) (Ev.isVo (T := .pk) T.EX ht17 (by decide) T.z_isinstance (Ev.nmB 0))) EvA.nil))))) ht18))) trivial)))
abbrev N_law_same : List Str := ["_law_found", "_law_due"]
abbrev sc_law_same : Scope := defScope s_law_same
theorem scp_law_same : FnScope N_law_same ["_law_found", "_law_due"] sc_law_same := ⟨rfl, rfl, rfl, by decide +kernel, rfl, by decide +kernel, by decide +kernel⟩
noncomputable def m_law_same (p0 : ((T3 Str Int Int) ⊕ ((T3 Int Int Int) ⊕ (Int ⊕ (Int × Int))))) (p1 : ((T3 Str Int Int) ⊕ ((T3 Int Int Int) ⊕ (Int ⊕ (Int × Int))))) : Option (Fl (Unit) Empty (Bool) Empty) :=
  ((eqK p0 p1).bind fun t1 => (some (.rt ((t1 && (decide ((Isb.isb p0) = (Isb.isb p1)))) : Bool))))
noncomputable def f_law_same (p0 : ((T3 Str Int Int) ⊕ ((T3 Int Int Int) ⊕ (Int ⊕ (Int × Int))))) (p1 : ((T3 Str Int Int) ⊕ ((T3 Int Int Int) ⊕ (Int ⊕ (Int × Int))))) : Option (Bool) := retD (m_law_same p0 p1)
abbrev sp_law_same (K : Frag) : Sp := spF (K := K) (ι := ((T3 Str Int Int) ⊕ ((T3 Int Int Int) ⊕ (Int ⊕ (Int × Int)))) × ((T3 Str Int Int) ⊕ ((T3 Int Int Int) ⊕ (Int ⊕ (Int × Int))))) (ν := Unit) (ρ := Bool) (ε := Empty) (fun (i : ((T3 Str Int Int) ⊕ ((T3 Int Int Int) ⊕ (Int ⊕ (Int × Int)))) × ((T3 Str Int Int) ⊕ ((T3 Int Int Int) ⊕ (Int ⊕ (Int × Int))))) => [(bo (i.1 : ((T3 Str Int Int) ⊕ ((T3 Int Int Int) ⊕ (Int ⊕ (Int × Int)))))), (bo (i.2 : ((T3 Str Int Int) ⊕ ((T3 Int Int Int) ⊕ (Int ⊕ (Int × Int))))))]) (fun i => m_law_same i.1 i.2) (fun i s => [un, un]) (fun i r => fz (r : Bool)) (fun i r => []) (noX (K := K))
theorem ok_law_same (T : Facts K mg) : FnOk Pg w K mg base CX0 1 T.f_law_same T.fd_law_same ["_law_found", "_law_due"] (sp_law_same K) := by
  refine fn_ok T.F_law_same scp_law_same (fun i => rfl) fun cdv A outer s H E i hr => ?_
  have hu := hr.units
  have hu1 := units100 hr
  have sc := scp_law_same
  obtain ⟨p0, p1⟩ := i
  unfold m_law_same
  exact Bk.bnd fun t1 ht1 => Bk.ret (Ev.m (Ev.sc (T := .fz) (Ev.and (EvC.ev (S := .pk) (EvC.eqK hu (Ev.nmB 0) (Ev.nmB 1) ht1)) fun hp2 => (Ev.and1 (EvC.ev (S := .pk) (EvC.eqs (Ev.isb (T := .pk) T.z_isinstance (Ev.nmB 0) T.z_bool) (Ev.isb (T := .pk) T.z_isinstance (Ev.nmB 1) T.z_bool))))))) trivial
abbrev N_law : List Str := ["_law_script", "_law_some", "_law_two_here", "_law_pair", "_law_fault_here", "_law_sums", "_law_rows", "_law_made", "_law_found", "_law_few", "_law_free", "_law_land", "_law_odd", "_law_k", "_law_one", "_law_due", "_law_j"]
abbrev sc_law : Scope := defScope s_law
theorem scp_law : FnScope N_law ["_law_script"] sc_law := ⟨rfl, rfl, rfl, by decide +kernel, rfl, by decide +kernel, by decide +kernel⟩
noncomputable def m_law (p0 : Script) : Option (Fl (Unit) Empty (Bool) Empty) :=
  ((lcD (rangeI 0 (8 : Int)) (fun (y1 : Int) => (some true)) (fun (y1 : Int) => ((f_law_cell p0 y1).bind fun t3 => (some t3)))).bind fun t9 => ((atI t9 (0 : Int)).bind fun t11 => ((f_law_two t11 (14 : Int)).bind fun t12 => ((atI t9 (1 : Int)).bind fun t13 => ((f_law_two t13 (24 : Int)).bind fun t14 => ((atI t9 (2 : Int)).bind fun t15 => ((f_law_fault t15 t12).bind fun t16 => ((atI t9 (3 : Int)).bind fun t17 => ((f_law_count t17).bind fun t18 => ((atI t9 (4 : Int)).bind fun t19 => ((atI t9 (5 : Int)).bind fun t20 => ((atI t9 (6 : Int)).bind fun t21 => ((atI t9 (7 : Int)).bind fun t22 => ((some (T4.mk (t19 % (14 : Int)) (t20 % (14 : Int)) (t21 % (24 : Int)) (t22 % (14 : Int)))).bind fun v23 => ((some [((⟨"NoWeb", [("fault", .ft (t16).a (t16).b (t16).c)]⟩ : Er), (Sum.inl (t16 : (T3 Str Int Int)) : ((T3 Str Int Int) ⊕ ((T3 Int Int Int) ⊕ (Int ⊕ (Int × Int)))))), ((⟨"NotPlane", [("counted", .t3 (t18).a (t18).b (t18).c)]⟩ : Er), (Sum.inr (Sum.inl (t18 : (T3 Int Int Int)) : ((T3 Int Int Int) ⊕ (Int ⊕ (Int × Int)))) : ((T3 Str Int Int) ⊕ ((T3 Int Int Int) ⊕ (Int ⊕ (Int × Int)))))), ((⟨"Alike", [("one", .int (t12.1)), ("other", .int (t12.2))]⟩ : Er), (Sum.inr (Sum.inr (Sum.inl (t12.1 : Int) : (Int ⊕ (Int × Int))) : ((T3 Int Int Int) ⊕ (Int ⊕ (Int × Int)))) : ((T3 Str Int Int) ⊕ ((T3 Int Int Int) ⊕ (Int ⊕ (Int × Int)))))), ((⟨"TooFew", [("point", .int (v23.a))]⟩ : Er), (Sum.inr (Sum.inr (Sum.inl (v23.a : Int) : (Int ⊕ (Int × Int))) : ((T3 Int Int Int) ⊕ (Int ⊕ (Int × Int)))) : ((T3 Str Int Int) ⊕ ((T3 Int Int Int) ⊕ (Int ⊕ (Int × Int))))))]).bind fun v24 => ((catL v24 [((⟨"NotFree", [("point", .int (v23.b))]⟩ : Er), (Sum.inr (Sum.inr (Sum.inl (v23.b : Int) : (Int ⊕ (Int × Int))) : ((T3 Int Int Int) ⊕ (Int ⊕ (Int × Int)))) : ((T3 Str Int Int) ⊕ ((T3 Int Int Int) ⊕ (Int ⊕ (Int × Int)))))), ((⟨"NotFilled", [("land", .int (v23.c))]⟩ : Er), (Sum.inr (Sum.inr (Sum.inl (v23.c : Int) : (Int ⊕ (Int × Int))) : ((T3 Int Int Int) ⊕ (Int ⊕ (Int × Int)))) : ((T3 Str Int Int) ⊕ ((T3 Int Int Int) ⊕ (Int ⊕ (Int × Int)))))), ((⟨"Odd", [("point", .int (v23.d))]⟩ : Er), (Sum.inr (Sum.inr (Sum.inl (v23.d : Int) : (Int ⊕ (Int × Int))) : ((T3 Int Int Int) ⊕ (Int ⊕ (Int × Int)))) : ((T3 Str Int Int) ⊕ ((T3 Int Int Int) ⊕ (Int ⊕ (Int × Int)))))), ((⟨"Bridge", [("tie", .pr (t12).1 (t12).2)]⟩ : Er), (Sum.inr (Sum.inr (Sum.inr (t12 : (Int × Int)) : (Int ⊕ (Int × Int))) : ((T3 Int Int Int) ⊕ (Int ⊕ (Int × Int)))) : ((T3 Str Int Int) ⊕ ((T3 Int Int Int) ⊕ (Int ⊕ (Int × Int))))))]).bind fun t25 => ((catL t25 [((⟨"Shared", [("one", .int (t14.1)), ("other", .int (t14.2))]⟩ : Er), (Sum.inr (Sum.inr (Sum.inl (t14.1 : Int) : (Int ⊕ (Int × Int))) : ((T3 Int Int Int) ⊕ (Int ⊕ (Int × Int)))) : ((T3 Str Int Int) ⊕ ((T3 Int Int Int) ⊕ (Int ⊕ (Int × Int))))))]).bind fun t26 => (bindD (forD (enumL [(⟨"TooMany", []⟩ : Er), (⟨"TooSmall", []⟩ : Er), (⟨"NoText", []⟩ : Er), (⟨"NoCorner", []⟩ : Er), (⟨"NoRing", []⟩ : Er)]) (fun (s27 : Unit) (y28 : (Int × Er)) => ((isO nsL y28.2 "MapError").bind fun t29 => ((if (!t29) = true then some true else ((isO nsL y28.2 "ValueError").bind fun t31 => (some (!t31)))).bind fun t32 => (if t32 = true then (some (.rt (false : Bool))) else ((f_law_kinds y28.2).bind fun t36 => (if (!decide (t36 = (List.map (fun (y37 : Int) => (decide (y37 = ((9 : Int) + y28.1)))) (rangeI 0 (14 : Int))))) = true then (some (.rt (false : Bool))) else (some (.nx ())))))))) ()) fun (s27 : Unit) => ((some (List.map (fun (y45 : (Er × ((T3 Str Int Int) ⊕ ((T3 Int Int Int) ⊕ (Int ⊕ (Int × Int)))))) => y45.1) t26)).bind fun v52 => (bindD (forD (enumL v52) (fun (s53 : Unit) (y54 : (Int × Er)) => ((isO nsL y54.2 "MapError").bind fun t55 => ((if (!t55) = true then some true else ((isO nsL y54.2 "ValueError").bind fun t57 => (some (!t57)))).bind fun t58 => (if t58 = true then (some (.rt (false : Bool))) else ((f_law_kinds y54.2).bind fun t62 => (if (!decide (t62 = (List.map (fun (y63 : Int) => (decide (y54.1 = y63))) (rangeI 0 (14 : Int))))) = true then (some (.rt (false : Bool))) else (some (.nx ())))))))) ()) fun (s53 : Unit) => ((atI v52 (0 : Int)).bind fun t71 => (((erF ["NoWeb"] t71 "fault").bind Fv.s).bind fun t72 => ((atI v52 (1 : Int)).bind fun t73 => (((erF ["NotPlane"] t73 "counted").bind Fv.t).bind fun t74 => ((atI v52 (2 : Int)).bind fun t75 => (((erF ["Alike", "Shared"] t75 "one").bind Fv.i).bind fun t76 => ((atI v52 (3 : Int)).bind fun t77 => (((erF ["TooFew", "NotFree", "Odd"] t77 "point").bind Fv.i).bind fun t78 => ((atI v52 (4 : Int)).bind fun t79 => (((erF ["TooFew", "NotFree", "Odd"] t79 "point").bind Fv.i).bind fun t80 => ((atI v52 (5 : Int)).bind fun t81 => (((erF ["NotFilled"] t81 "land").bind Fv.i).bind fun t82 => ((atI v52 (6 : Int)).bind fun t83 => (((erF ["TooFew", "NotFree", "Odd"] t83 "point").bind Fv.i).bind fun t84 => ((some [(Sum.inl (t72 : (T3 Str Int Int)) : ((T3 Str Int Int) ⊕ ((T3 Int Int Int) ⊕ (Int ⊕ (Int × Int))))), (Sum.inr (Sum.inl (t74 : (T3 Int Int Int)) : ((T3 Int Int Int) ⊕ (Int ⊕ (Int × Int)))) : ((T3 Str Int Int) ⊕ ((T3 Int Int Int) ⊕ (Int ⊕ (Int × Int))))), (Sum.inr (Sum.inr (Sum.inl (t76 : Int) : (Int ⊕ (Int × Int))) : ((T3 Int Int Int) ⊕ (Int ⊕ (Int × Int)))) : ((T3 Str Int Int) ⊕ ((T3 Int Int Int) ⊕ (Int ⊕ (Int × Int))))), (Sum.inr (Sum.inr (Sum.inl (t78 : Int) : (Int ⊕ (Int × Int))) : ((T3 Int Int Int) ⊕ (Int ⊕ (Int × Int)))) : ((T3 Str Int Int) ⊕ ((T3 Int Int Int) ⊕ (Int ⊕ (Int × Int))))), (Sum.inr (Sum.inr (Sum.inl (t80 : Int) : (Int ⊕ (Int × Int))) : ((T3 Int Int Int) ⊕ (Int ⊕ (Int × Int)))) : ((T3 Str Int Int) ⊕ ((T3 Int Int Int) ⊕ (Int ⊕ (Int × Int))))), (Sum.inr (Sum.inr (Sum.inl (t82 : Int) : (Int ⊕ (Int × Int))) : ((T3 Int Int Int) ⊕ (Int ⊕ (Int × Int)))) : ((T3 Str Int Int) ⊕ ((T3 Int Int Int) ⊕ (Int ⊕ (Int × Int))))), (Sum.inr (Sum.inr (Sum.inl (t84 : Int) : (Int ⊕ (Int × Int))) : ((T3 Int Int Int) ⊕ (Int ⊕ (Int × Int)))) : ((T3 Str Int Int) ⊕ ((T3 Int Int Int) ⊕ (Int ⊕ (Int × Int)))))]).bind fun v85 => ((atI v52 (7 : Int)).bind fun t86 => (((erF ["Bridge"] t86 "tie").bind Fv.p).bind fun t87 => ((atI v52 (8 : Int)).bind fun t88 => (((erF ["Alike", "Shared"] t88 "one").bind Fv.i).bind fun t89 => ((catL v85 [(Sum.inr (Sum.inr (Sum.inr (t87 : (Int × Int)) : (Int ⊕ (Int × Int))) : ((T3 Int Int Int) ⊕ (Int ⊕ (Int × Int)))) : ((T3 Str Int Int) ⊕ ((T3 Int Int Int) ⊕ (Int ⊕ (Int × Int))))), (Sum.inr (Sum.inr (Sum.inl (t89 : Int) : (Int ⊕ (Int × Int))) : ((T3 Int Int Int) ⊕ (Int ⊕ (Int × Int)))) : ((T3 Str Int Int) ⊕ ((T3 Int Int Int) ⊕ (Int ⊕ (Int × Int)))))]).bind fun t90 => ((lcD (rangeI 0 (9 : Int)) (fun (y91 : Int) => (some true)) (fun (y91 : Int) => ((atI t90 y91).bind fun t93 => ((atI t26 y91).bind fun t94 => ((f_law_same t93 t94.2).bind fun t95 => (some t95)))))).bind fun t101 => (if (!(List.all t101 id)) = true then (some (.rt (false : Bool))) else ((atI v52 (2 : Int)).bind fun t103 => (((erF ["Alike", "Shared"] t103 "other").bind Fv.i).bind fun t104 => ((f_law_same (Sum.inr (Sum.inr (Sum.inl (t104 : Int) : (Int ⊕ (Int × Int))) : ((T3 Int Int Int) ⊕ (Int ⊕ (Int × Int)))) : ((T3 Str Int Int) ⊕ ((T3 Int Int Int) ⊕ (Int ⊕ (Int × Int))))) (Sum.inr (Sum.inr (Sum.inl (t12.2 : Int) : (Int ⊕ (Int × Int))) : ((T3 Int Int Int) ⊕ (Int ⊕ (Int × Int)))) : ((T3 Str Int Int) ⊕ ((T3 Int Int Int) ⊕ (Int ⊕ (Int × Int)))))).bind fun t105 => ((if t105 = true then ((atI v52 (8 : Int)).bind fun t107 => (((erF ["Alike", "Shared"] t107 "other").bind Fv.i).bind fun t108 => ((f_law_same (Sum.inr (Sum.inr (Sum.inl (t108 : Int) : (Int ⊕ (Int × Int))) : ((T3 Int Int Int) ⊕ (Int ⊕ (Int × Int)))) : ((T3 Str Int Int) ⊕ ((T3 Int Int Int) ⊕ (Int ⊕ (Int × Int))))) (Sum.inr (Sum.inr (Sum.inl (t14.2 : Int) : (Int ⊕ (Int × Int))) : ((T3 Int Int Int) ⊕ (Int ⊕ (Int × Int)))) : ((T3 Str Int Int) ⊕ ((T3 Int Int Int) ⊕ (Int ⊕ (Int × Int)))))).bind fun t109 => (some t109)))) else some false).bind fun t110 => (some (.rt (t110 : Bool)))))))))))))))))))))))))))))))))))))))))))))))))
noncomputable def f_law (p0 : Script) : Option (Bool) := retD (m_law p0)
abbrev sp_law (K : Frag) : Sp := spF (K := K) (ι := Script) (ν := Unit) (ρ := Bool) (ε := Empty) (fun (i : Script) => [(bo (i : Script))]) (fun i => m_law i) (fun i s => [un, un, un, un, un, un, un, un, un, un, un, un, un, un, un, un, un]) (fun i r => fz (r : Bool)) (fun i r => []) (noX (K := K))
theorem ok_law (T : Facts K mg) : FnOk Pg w K mg base CX0 4 T.f_law T.fd_law ["_law_script"] (sp_law K) := by
  refine fn_ok T.F_law scp_law (fun i => rfl) fun cdv A outer s H E p0 hr => ?_
  have hu := hr.units
  have hu1 := units100 hr
  have sc := scp_law
  unfold m_law
  exact Bk.bnd fun t9 ht9 => Bk.asgnLc 1 sc.nd (LcOk.mk (S := .fz) (T := .fz) (τ := (fun (y1 : Int) => [(bo (p0 : Script)), un, un, un, un, un, un, un, un, un, un, un, un, (fz (y1 : Int)), un, un, un])) (p := (fun (y1 : Int) => (some true))) (f := (fun (y1 : Int) => ((f_law_cell p0 y1).bind fun t3 => (some t3)))) (zs := t9) rfl sc.nd (EvI.range1 (T := .pk) (S' := .fz) T.z_range (Ev.int (S := .pk)) (rng_lit (by decide))) (blkOk_by (own := [("_law_k", 13)]) (N := N_law) (sc := sc_law) (by decide +kernel)) (fun _ _ _ _ _ y1 => (Tg.nameS 13 sc.nd)) (fun _ _ _ _ _ y1 q4 hq5 => EvTs.cast EvTs.nil (Option.some.inj hq5)) (fun _ _ _ _ _ y1 z6 hp8 hz7 => obind hz7 fun t3 ht3 hz7 => Ev.eq (EvO.ev (EvO.call (as := [abo .bo (p0 : Script), afz (y1 : Int)]) (ok_law_cell T) (hr.mono (by decide)) ((p0 : Script), (y1 : Int)) T.g_law_cell T.F_law_cell.kp T.b_law_cell pass0 (EvH.cons (Ev.nmB 0) (EvH.cons (Ev.sc (T := .fz) (Ev.nmS (S := .pk) 13)) EvH.nil)) ⟨ArgOk.bo, ArgOk.fz, trivial⟩ rfl (retD_some ht3) NoB.fz rfl)) (Option.some.inj hz7)) ht9) (Bk.freeze 1 (Bk.bnd fun t11 ht11 => Bk.bnd fun t12 ht12 => Bk.asgn 2 sc.nd (EvO.m (EvO.call (as := [afz (t11 : Int), afz ((14 : Int) : Int)]) (ok_law_two T) (hr.mono (by decide)) ((t11 : Int), ((14 : Int) : Int)) T.g_law_two T.F_law_two.kp T.b_law_two pass0 (EvH.cons (Ev.ix (Ev.lla (Ev.vlo (Ev.nm 1))) (Ev.int (S := .pk)) ht11) (EvH.cons (Ev.sc (T := .fz) (Ev.int (S := .pk))) EvH.nil)) ⟨ArgOk.fz, ArgOk.fz, trivial⟩ rfl (retD_some ht12) NoB.fz rfl)) (Bk.bnd fun t13 ht13 => Bk.bnd fun t14 ht14 => Bk.asgn 3 sc.nd (EvO.m (EvO.call (as := [afz (t13 : Int), afz ((24 : Int) : Int)]) (ok_law_two T) (hr.mono (by decide)) ((t13 : Int), ((24 : Int) : Int)) T.g_law_two T.F_law_two.kp T.b_law_two pass0 (EvH.cons (Ev.ix (Ev.lla (Ev.vlo (Ev.nm 1))) (Ev.int (S := .pk)) ht13) (EvH.cons (Ev.sc (T := .fz) (Ev.int (S := .pk))) EvH.nil)) ⟨ArgOk.fz, ArgOk.fz, trivial⟩ rfl (retD_some ht14) NoB.fz rfl)) (Bk.re (Γ' := [(bo (p0 : Script)), (fz (t9 : (List Int))), (fz (t12 : (Int × Int))), (fz (t14 : (Int × Int))), un, un, un, un, un, un, un, un, un, un, un, un, un]) (Bk.bnd fun t15 ht15 => Bk.bnd fun t16 ht16 => Bk.asgn 4 sc.nd (EvO.m (EvO.call (as := [afz (t15 : Int), abo .fz (t12 : (Int × Int))]) (ok_law_fault T) (hr.mono (by decide)) ((t15 : Int), (t12 : (Int × Int))) T.g_law_fault T.F_law_fault.kp T.b_law_fault pass0 (EvH.cons (Ev.ix (Ev.lla (Ev.vlo (Ev.nm 1))) (Ev.int (S := .pk)) ht15) (EvH.cons (Ev.nm 2) EvH.nil)) ⟨ArgOk.fz, ArgOk.bo, trivial⟩ rfl (retD_some ht16) NoB.fz rfl)) (Bk.bnd fun t17 ht17 => Bk.bnd fun t18 ht18 => Bk.asgn 5 sc.nd (EvO.m (EvO.call (as := [afz (t17 : Int)]) (ok_law_count T) (hr.mono (by decide)) ((t17 : Int)) T.g_law_count T.F_law_count.kp T.b_law_count pass0 (EvH.cons (Ev.ix (Ev.lla (Ev.vlo (Ev.nm 1))) (Ev.int (S := .pk)) ht17) EvH.nil) ⟨ArgOk.fz, trivial⟩ rfl (retD_some ht18) NoB.fz rfl)) (Bk.bnd fun t19 ht19 => Bk.bnd fun t20 ht20 => Bk.bnd fun t21 ht21 => Bk.bnd fun t22 ht22 => Bk.bnd fun v23 hv23 => Bk.asgTv (Ev.eq (Ev.quad (EvH.cons (S := .fz) (Ev.sc (T := .fz) (Ev.modC (Ev.sc (T := .pk) (Ev.ix (Ev.lla (Ev.vlo (Ev.nm 1))) (Ev.int (S := .pk)) ht19)) (Ev.int (S := .pk)) (by decide))) (EvH.cons (S := .fz) (Ev.sc (T := .fz) (Ev.modC (Ev.sc (T := .pk) (Ev.ix (Ev.lla (Ev.vlo (Ev.nm 1))) (Ev.int (S := .pk)) ht20)) (Ev.int (S := .pk)) (by decide))) (EvH.cons (S := .fz) (Ev.sc (T := .fz) (Ev.modC (Ev.sc (T := .pk) (Ev.ix (Ev.lla (Ev.vlo (Ev.nm 1))) (Ev.int (S := .pk)) ht21)) (Ev.int (S := .pk)) (by decide))) (EvH.cons (S := .fz) (Ev.sc (T := .fz) (Ev.modC (Ev.sc (T := .pk) (Ev.ix (Ev.lla (Ev.vlo (Ev.nm 1))) (Ev.int (S := .pk)) ht22)) (Ev.int (S := .pk)) (by decide))) EvH.nil))))) (Option.some.inj hv23)) (Tg.quad rfl (Tg.nameS 9 sc.nd) (Tg.nameS 10 sc.nd) (Tg.nameS 11 sc.nd) (Tg.nameS 12 sc.nd)) (Bk.re (Γ' := [(bo (p0 : Script)), (fz (t9 : (List Int))), (fz (t12 : (Int × Int))), (fz (t14 : (Int × Int))), (fz (t16 : (T3 Str Int Int))), (fz (t18 : (T3 Int Int Int))), un, un, un, (fz (v23.a : Int)), (fz (v23.b : Int)), (fz (v23.c : Int)), (fz (v23.d : Int)), un, un, un, un]) (Bk.bnd fun v24 hv24 => Bk.asgn 6 sc.nd (EvM.vfz (Ev.m (EvN.ev (EvN.lst (S := .fz) (EvA.cons (Ev.pair (EvH.cons (S := .fz) (Ev.mk1 (S := .fz) T.EF_NoWeb (ok_NoWeb___init__ T) (hr.mono (by decide)) T.b_NoWeb___init__ (Ev.nm 4) (fun _ _ h => h)) (EvH.cons (S := .fz) (Ev.inl (β := ((T3 Int Int Int) ⊕ (Int ⊕ (Int × Int)))) (Ev.nm 4)) EvH.nil))) (EvA.cons (Ev.pair (EvH.cons (S := .fz) (Ev.mk1 (S := .fz) T.EF_NotPlane (ok_NotPlane___init__ T) (hr.mono (by decide)) T.b_NotPlane___init__ (Ev.nm 5) (fun _ _ h => h)) (EvH.cons (S := .fz) (Ev.inr (α := (T3 Str Int Int)) (Ev.inl (β := (Int ⊕ (Int × Int))) (Ev.nm 5))) EvH.nil))) (EvA.cons (Ev.pair (EvH.cons (S := .fz) (Ev.mk2 (S := .fz) T.EF_Alike (by decide) (ok_Alike___init__ T) (hr.mono (by decide)) T.b_Alike___init__ (Ev.fst (Ev.nm 2)) (Ev.snd (Ev.nm 2)) (fun _ _ h => h) (fun _ _ h => h)) (EvH.cons (S := .fz) (Ev.inr (α := (T3 Str Int Int)) (Ev.inr (α := (T3 Int Int Int)) (Ev.inl (β := (Int × Int)) (Ev.fst (Ev.nm 2))))) EvH.nil))) (EvA.cons (Ev.pair (EvH.cons (S := .fz) (Ev.mk1 (S := .fz) T.EF_TooFew (ok_TooFew___init__ T) (hr.mono (by decide)) T.b_TooFew___init__ (Ev.sc (T := .fz) (Ev.nmS (S := .pk) 9)) (fun _ _ h => h)) (EvH.cons (S := .fz) (Ev.inr (α := (T3 Str Int Int)) (Ev.inr (α := (T3 Int Int Int)) (Ev.inl (β := (Int × Int)) (Ev.sc (T := .fz) (Ev.nmS (S := .pk) 9))))) EvH.nil))) EvA.nil))))))) (Option.some.inj hv24)) (Bk.bnd fun t25 ht25 => Bk.asgn 6 sc.nd (Ev.m (EvN.ev (EvN.cat (Ev.vlo (Ev.nm 6)) (Ev.vlo (EvN.ev (EvN.lst (S := .fz) (EvA.cons (Ev.pair (EvH.cons (S := .fz) (Ev.mk1 (S := .fz) T.EF_NotFree (ok_NotFree___init__ T) (hr.mono (by decide)) T.b_NotFree___init__ (Ev.sc (T := .fz) (Ev.nmS (S := .pk) 10)) (fun _ _ h => h)) (EvH.cons (S := .fz) (Ev.inr (α := (T3 Str Int Int)) (Ev.inr (α := (T3 Int Int Int)) (Ev.inl (β := (Int × Int)) (Ev.sc (T := .fz) (Ev.nmS (S := .pk) 10))))) EvH.nil))) (EvA.cons (Ev.pair (EvH.cons (S := .fz) (Ev.mk1 (S := .fz) T.EF_NotFilled (ok_NotFilled___init__ T) (hr.mono (by decide)) T.b_NotFilled___init__ (Ev.sc (T := .fz) (Ev.nmS (S := .pk) 11)) (fun _ _ h => h)) (EvH.cons (S := .fz) (Ev.inr (α := (T3 Str Int Int)) (Ev.inr (α := (T3 Int Int Int)) (Ev.inl (β := (Int × Int)) (Ev.sc (T := .fz) (Ev.nmS (S := .pk) 11))))) EvH.nil))) (EvA.cons (Ev.pair (EvH.cons (S := .fz) (Ev.mk1 (S := .fz) T.EF_Odd (ok_Odd___init__ T) (hr.mono (by decide)) T.b_Odd___init__ (Ev.sc (T := .fz) (Ev.nmS (S := .pk) 12)) (fun _ _ h => h)) (EvH.cons (S := .fz) (Ev.inr (α := (T3 Str Int Int)) (Ev.inr (α := (T3 Int Int Int)) (Ev.inl (β := (Int × Int)) (Ev.sc (T := .fz) (Ev.nmS (S := .pk) 12))))) EvH.nil))) (EvA.cons (Ev.pair (EvH.cons (S := .fz) (Ev.mk1 (S := .fz) T.EF_Bridge (ok_Bridge___init__ T) (hr.mono (by decide)) T.b_Bridge___init__ (Ev.nm 2) (fun _ _ h => h)) (EvH.cons (S := .fz) (Ev.inr (α := (T3 Str Int Int)) (Ev.inr (α := (T3 Int Int Int)) (Ev.inr (α := Int) (Ev.nm 2)))) EvH.nil))) EvA.nil))))))) ht25))) (Bk.bnd fun t26 ht26 => Bk.asgn 6 sc.nd (Ev.m (EvN.ev (EvN.cat (Ev.vlo (Ev.nm 6)) (Ev.vlo (EvN.ev (EvN.lst (S := .fz) (EvA.cons (Ev.pair (EvH.cons (S := .fz) (Ev.mk2 (S := .fz) T.EF_Shared (by decide) (ok_Shared___init__ T) (hr.mono (by decide)) T.b_Shared___init__ (Ev.fst (Ev.nm 3)) (Ev.snd (Ev.nm 3)) (fun _ _ h => h) (fun _ _ h => h)) (EvH.cons (S := .fz) (Ev.inr (α := (T3 Str Int Int)) (Ev.inr (α := (T3 Int Int Int)) (Ev.inl (β := (Int × Int)) (Ev.fst (Ev.nm 3))))) EvH.nil))) EvA.nil)))) ht26))) (Bk.re (Γ' := [(bo (p0 : Script)), (fz (t9 : (List Int))), (fz (t12 : (Int × Int))), (fz (t14 : (Int × Int))), (fz (t16 : (T3 Str Int Int))), (fz (t18 : (T3 Int Int Int))), (fz (t26 : (List (Er × ((T3 Str Int Int) ⊕ ((T3 Int Int Int) ⊕ (Int ⊕ (Int × Int)))))))), un, un, (fz (v23.a : Int)), (fz (v23.b : Int)), (fz (v23.c : Int)), (fz (v23.d : Int)), un, un, un, un]) (Bk.for (S := .fz) (δ := fun (s27 : Unit) => [(bo (p0 : Script)), (fz (t9 : (List Int))), (fz (t12 : (Int × Int))), (fz (t14 : (Int × Int))), (fz (t16 : (T3 Str Int Int))), (fz (t18 : (T3 Int Int Int))), (fz (t26 : (List (Er × ((T3 Str Int Int) ⊕ ((T3 Int Int Int) ⊕ (Int ⊕ (Int × Int)))))))), un, un, (fz (v23.a : Int)), (fz (v23.b : Int)), (fz (v23.c : Int)), (fz (v23.d : Int)), un, un, un, un]) (τ := fun (s27 : Unit) (y28 : (Int × Er)) => [(bo (p0 : Script)), (fz (t9 : (List Int))), (fz (t12 : (Int × Int))), (fz (t14 : (Int × Int))), (fz (t16 : (T3 Str Int Int))), (fz (t18 : (T3 Int Int Int))), (fz (t26 : (List (Er × ((T3 Str Int Int) ⊕ ((T3 Int Int Int) ⊕ (Int ⊕ (Int × Int)))))))), un, un, (fz (v23.a : Int)), (fz (v23.b : Int)), (fz (v23.c : Int)), (fz (v23.d : Int)), (fz (y28.1 : Int)), (fz (y28.2 : Er)), un, un]) rfl PassesOwn.never (EvI.enumv T.z_enumerate (EvN.ev (EvN.lst (S := .fz) (EvA.cons (Ev.mk0 (S := .fz) T.EO_TooMany) (EvA.cons (Ev.mk0 (S := .fz) T.EO_TooSmall) (EvA.cons (Ev.mk0 (S := .fz) T.EO_NoText) (EvA.cons (Ev.mk0 (S := .fz) T.EO_NoCorner) (EvA.cons (Ev.mk0 (S := .fz) T.EO_NoRing) EvA.nil)))))))) (by decide) (by decide) ⟨.inl rfl, .inl rfl, .inl rfl, .inl rfl, .inl rfl, .inl rfl, .inl rfl, .inr rfl, .inr rfl, .inl rfl, .inl rfl, .inl rfl, .inl rfl, .inr rfl, .inr rfl, .inr rfl, .inr rfl, trivial⟩ rfl (fun s27 y28 => (Tg.pair rfl (Tg.nameS 13 sc.nd) (Tg.name 14 sc.nd))) (fun s27 y28 => Bk.bnd fun t29 ht29 => Bk.bnd fun t32 ht32 => Bk.iteR (EvW.t (EvW.orP (ob := ((isO nsL y28.2 "ValueError").bind fun t31 => (some (!t31)))) (EvT.not (Ev.t (Ev.isVo (T := .pk) T.EX ht29 (by decide) T.z_isinstance (Ev.nm 14)))) (fun q33 hp30 hq34 => obind hq34 fun t31 ht31 hq34 => EvW.cast (EvW.or1 (EvT.not (Ev.t (Ev.isVe (T := .pk) T.EX ht31 T.z_isinstance T.z_ValueError (Ev.nm 14))))) (Option.some.inj hq34)) ht32)) (fun hb35 => Bk.ret (Ev.m (Ev.sc (T := .fz) (Ev.bl (S := .pk)))) trivial) (fun hb35 => Bk.re (Γ' := [(bo (p0 : Script)), (fz (t9 : (List Int))), (fz (t12 : (Int × Int))), (fz (t14 : (Int × Int))), (fz (t16 : (T3 Str Int Int))), (fz (t18 : (T3 Int Int Int))), (fz (t26 : (List (Er × ((T3 Str Int Int) ⊕ ((T3 Int Int Int) ⊕ (Int ⊕ (Int × Int)))))))), un, un, (fz (v23.a : Int)), (fz (v23.b : Int)), (fz (v23.c : Int)), (fz (v23.d : Int)), (fz (y28.1 : Int)), (fz (y28.2 : Er)), un, un]) (Bk.bnd fun t36 ht36 => Bk.iteR (EvC.t (EvC.ned hu (EvO.ev (EvO.call (as := [abo .fz (y28.2 : Er)]) (ok_law_kinds T) (hr.mono (by decide)) ((y28.2 : Er)) T.g_law_kinds T.F_law_kinds.kp T.b_law_kinds pass0 (EvH.cons (Ev.nm 14) EvH.nil) ⟨ArgOk.bo, trivial⟩ rfl (retD_some ht36) NoB.fz rfl)) (EvN.ev (EvN.lc (LcOk.mk (S := .fz) (T := .fz) (τ := (fun (y37 : Int) => [(bo (p0 : Script)), (fz (t9 : (List Int))), (fz (t12 : (Int × Int))), (fz (t14 : (Int × Int))), (fz (t16 : (T3 Str Int Int))), (fz (t18 : (T3 Int Int Int))), (fz (t26 : (List (Er × ((T3 Str Int Int) ⊕ ((T3 Int Int Int) ⊕ (Int ⊕ (Int × Int)))))))), un, un, (fz (v23.a : Int)), (fz (v23.b : Int)), (fz (v23.c : Int)), (fz (v23.d : Int)), (fz (y28.1 : Int)), (fz (y28.2 : Er)), un, (fz (y37 : Int))])) (p := (fun (y37 : Int) => (some true))) (f := (fun (y37 : Int) => (some (decide (y37 = ((9 : Int) + y28.1)))))) (zs := (List.map (fun (y37 : Int) => (decide (y37 = ((9 : Int) + y28.1)))) (rangeI 0 (14 : Int)))) rfl sc.nd (EvI.range1 (T := .pk) (S' := .fz) T.z_range (Ev.int (S := .pk)) (rng_lit (by decide))) (blkOk_by (own := [("_law_j", 16)]) (N := N_law) (sc := sc_law) (by decide +kernel)) (fun _ _ _ _ _ y37 => (Tg.nameS 16 sc.nd)) (fun _ _ _ _ _ y37 q39 hq40 => EvTs.cast EvTs.nil (Option.some.inj hq40)) (fun _ _ _ _ _ y37 z41 hp43 hz42 => Ev.eq (Ev.sc (T := .fz) (EvC.ev (S := .pk) (EvC.eqs (Ev.nmS (S := .pk) 16) (Ev.add (Ev.int (S := .pk)) (Ev.nmS (S := .pk) 13))))) (Option.some.inj hz42)) lcD_map))))) (fun hb44 => Bk.ret (Ev.m (Ev.sc (T := .fz) (Ev.bl (S := .pk)))) trivial) (fun hb44 => Bk.nil ⟨.inl rfl, .inl rfl, .inl rfl, .inl rfl, .inl rfl, .inl rfl, .inl rfl, .inr rfl, .inr rfl, .inl rfl, .inl rfl, .inl rfl, .inl rfl, .inr rfl, .inr rfl, .inr rfl, .inr rfl, trivial⟩)))) (fun s27 => Bk.bnd fun v52 hv52 => Bk.asgnLc 7 sc.nd (LcOk.val (LcOk.mk (S := .fz) (T := .fz) (τ := (fun (y45 : (Er × ((T3 Str Int Int) ⊕ ((T3 Int Int Int) ⊕ (Int ⊕ (Int × Int)))))) => [(bo (p0 : Script)), (fz (t9 : (List Int))), (fz (t12 : (Int × Int))), (fz (t14 : (Int × Int))), (fz (t16 : (T3 Str Int Int))), (fz (t18 : (T3 Int Int Int))), (fz (t26 : (List (Er × ((T3 Str Int Int) ⊕ ((T3 Int Int Int) ⊕ (Int ⊕ (Int × Int)))))))), un, un, (fz (v23.a : Int)), (fz (v23.b : Int)), (fz (v23.c : Int)), (fz (v23.d : Int)), un, (fz (y45.1 : Er)), (fz (y45.2 : ((T3 Str Int Int) ⊕ ((T3 Int Int Int) ⊕ (Int ⊕ (Int × Int)))))), un])) (p := (fun (y45 : (Er × ((T3 Str Int Int) ⊕ ((T3 Int Int Int) ⊕ (Int ⊕ (Int × Int)))))) => (some true))) (f := (fun (y45 : (Er × ((T3 Str Int Int) ⊕ ((T3 Int Int Int) ⊕ (Int ⊕ (Int × Int)))))) => (some y45.1))) (zs := (List.map (fun (y45 : (Er × ((T3 Str Int Int) ⊕ ((T3 Int Int Int) ⊕ (Int ⊕ (Int × Int)))))) => y45.1) t26)) rfl sc.nd (EvI.la (Ev.lla (Ev.vlo (Ev.nm 6)))) (blkOk_by (own := [("_law_one", 14), ("_law_due", 15)]) (N := N_law) (sc := sc_law) (by decide +kernel)) (fun _ _ _ _ _ y45 => (Tg.pair rfl (Tg.name 14 sc.nd) (Tg.name 15 sc.nd))) (fun _ _ _ _ _ y45 q47 hq48 => EvTs.cast EvTs.nil (Option.some.inj hq48)) (fun _ _ _ _ _ y45 z49 hp51 hz50 => Ev.eq (Ev.nm 14) (Option.some.inj hz50)) lcD_map) (Option.some.inj hv52)) (Bk.freeze 7 (Bk.re (Γ' := [(bo (p0 : Script)), (fz (t9 : (List Int))), (fz (t12 : (Int × Int))), (fz (t14 : (Int × Int))), (fz (t16 : (T3 Str Int Int))), (fz (t18 : (T3 Int Int Int))), (fz (t26 : (List (Er × ((T3 Str Int Int) ⊕ ((T3 Int Int Int) ⊕ (Int ⊕ (Int × Int)))))))), (fz (v52 : (List Er))), un, (fz (v23.a : Int)), (fz (v23.b : Int)), (fz (v23.c : Int)), (fz (v23.d : Int)), un, un, un, un]) (Bk.for (S := .fz) (δ := fun (s53 : Unit) => [(bo (p0 : Script)), (fz (t9 : (List Int))), (fz (t12 : (Int × Int))), (fz (t14 : (Int × Int))), (fz (t16 : (T3 Str Int Int))), (fz (t18 : (T3 Int Int Int))), (fz (t26 : (List (Er × ((T3 Str Int Int) ⊕ ((T3 Int Int Int) ⊕ (Int ⊕ (Int × Int)))))))), (fz (v52 : (List Er))), un, (fz (v23.a : Int)), (fz (v23.b : Int)), (fz (v23.c : Int)), (fz (v23.d : Int)), un, un, un, un]) (τ := fun (s53 : Unit) (y54 : (Int × Er)) => [(bo (p0 : Script)), (fz (t9 : (List Int))), (fz (t12 : (Int × Int))), (fz (t14 : (Int × Int))), (fz (t16 : (T3 Str Int Int))), (fz (t18 : (T3 Int Int Int))), (fz (t26 : (List (Er × ((T3 Str Int Int) ⊕ ((T3 Int Int Int) ⊕ (Int ⊕ (Int × Int)))))))), (fz (v52 : (List Er))), un, (fz (v23.a : Int)), (fz (v23.b : Int)), (fz (v23.c : Int)), (fz (v23.d : Int)), (fz (y54.1 : Int)), (fz (y54.2 : Er)), un, un]) rfl PassesOwn.never (EvI.enumv T.z_enumerate (Ev.nm 7)) (by decide) (by decide) ⟨.inl rfl, .inl rfl, .inl rfl, .inl rfl, .inl rfl, .inl rfl, .inl rfl, .inl rfl, .inr rfl, .inl rfl, .inl rfl, .inl rfl, .inl rfl, .inr rfl, .inr rfl, .inr rfl, .inr rfl, trivial⟩ rfl (fun s53 y54 => (Tg.pair rfl (Tg.nameS 13 sc.nd) (Tg.name 14 sc.nd))) (fun s53 y54 => Bk.bnd fun t55 ht55 => Bk.bnd fun t58 ht58 => Bk.iteR (EvW.t (EvW.orP (ob := ((isO nsL y54.2 "ValueError").bind fun t57 => (some (!t57)))) (EvT.not (Ev.t (Ev.isVo (T := .pk) T.EX ht55 (by decide) T.z_isinstance (Ev.nm 14)))) (fun q59 hp56 hq60 => obind hq60 fun t57 ht57 hq60 => EvW.cast (EvW.or1 (EvT.not (Ev.t (Ev.isVe (T := .pk) T.EX ht57 T.z_isinstance T.z_ValueError (Ev.nm 14))))) (Option.some.inj hq60)) ht58)) (fun hb61 => Bk.ret (Ev.m (Ev.sc (T := .fz) (Ev.bl (S := .pk)))) trivial) (fun hb61 => Bk.re (Γ' := [(bo (p0 : Script)), (fz (t9 : (List Int))), (fz (t12 : (Int × Int))), (fz (t14 : (Int × Int))), (fz (t16 : (T3 Str Int Int))), (fz (t18 : (T3 Int Int Int))), (fz (t26 : (List (Er × ((T3 Str Int Int) ⊕ ((T3 Int Int Int) ⊕ (Int ⊕ (Int × Int)))))))), (fz (v52 : (List Er))), un, (fz (v23.a : Int)), (fz (v23.b : Int)), (fz (v23.c : Int)), (fz (v23.d : Int)), (fz (y54.1 : Int)), (fz (y54.2 : Er)), un, un]) (Bk.bnd fun t62 ht62 => Bk.iteR (EvC.t (EvC.ned hu (EvO.ev (EvO.call (as := [abo .fz (y54.2 : Er)]) (ok_law_kinds T) (hr.mono (by decide)) ((y54.2 : Er)) T.g_law_kinds T.F_law_kinds.kp T.b_law_kinds pass0 (EvH.cons (Ev.nm 14) EvH.nil) ⟨ArgOk.bo, trivial⟩ rfl (retD_some ht62) NoB.fz rfl)) (EvN.ev (EvN.lc (LcOk.mk (S := .fz) (T := .fz) (τ := (fun (y63 : Int) => [(bo (p0 : Script)), (fz (t9 : (List Int))), (fz (t12 : (Int × Int))), (fz (t14 : (Int × Int))), (fz (t16 : (T3 Str Int Int))), (fz (t18 : (T3 Int Int Int))), (fz (t26 : (List (Er × ((T3 Str Int Int) ⊕ ((T3 Int Int Int) ⊕ (Int ⊕ (Int × Int)))))))), (fz (v52 : (List Er))), un, (fz (v23.a : Int)), (fz (v23.b : Int)), (fz (v23.c : Int)), (fz (v23.d : Int)), (fz (y54.1 : Int)), (fz (y54.2 : Er)), un, (fz (y63 : Int))])) (p := (fun (y63 : Int) => (some true))) (f := (fun (y63 : Int) => (some (decide (y54.1 = y63))))) (zs := (List.map (fun (y63 : Int) => (decide (y54.1 = y63))) (rangeI 0 (14 : Int)))) rfl sc.nd (EvI.range1 (T := .pk) (S' := .fz) T.z_range (Ev.int (S := .pk)) (rng_lit (by decide))) (blkOk_by (own := [("_law_j", 16)]) (N := N_law) (sc := sc_law) (by decide +kernel)) (fun _ _ _ _ _ y63 => (Tg.nameS 16 sc.nd)) (fun _ _ _ _ _ y63 q65 hq66 => EvTs.cast EvTs.nil (Option.some.inj hq66)) (fun _ _ _ _ _ y63 z67 hp69 hz68 => Ev.eq (Ev.sc (T := .fz) (EvC.ev (S := .pk) (EvC.eqs (Ev.nmS (S := .pk) 13) (Ev.nmS (S := .pk) 16)))) (Option.some.inj hz68)) lcD_map))))) (fun hb70 => Bk.ret (Ev.m (Ev.sc (T := .fz) (Ev.bl (S := .pk)))) trivial) (fun hb70 => Bk.nil ⟨.inl rfl, .inl rfl, .inl rfl, .inl rfl, .inl rfl, .inl rfl, .inl rfl, .inl rfl, .inr rfl, .inl rfl, .inl rfl, .inl rfl, .inl rfl, .inr rfl, .inr rfl, .inr rfl, .inr rfl, trivial⟩)))) (fun s53 => Bk.bnd fun t71 ht71 => Bk.bnd fun t72 ht72 => Bk.bnd fun t73 ht73 => Bk.bnd fun t74 ht74 => Bk.bnd fun t75 ht75 => Bk.bnd fun t76 ht76 => Bk.bnd fun t77 ht77 => Bk.bnd fun t78 ht78 => Bk.bnd fun t79 ht79 => Bk.bnd fun t80 ht80 => Bk.bnd fun t81 ht81 => Bk.bnd fun t82 ht82 => Bk.bnd fun t83 ht83 => Bk.bnd fun t84 ht84 => Bk.bnd fun v85 hv85 => Bk.asgn 8 sc.nd (EvM.vfz (Ev.m (EvN.ev (EvN.lst (S := .fz) (EvA.cons (Ev.inl (β := ((T3 Int Int Int) ⊕ (Int ⊕ (Int × Int)))) (Ev.erA (all1 ⟨xf_of (T.EX.X "NoWeb" (by decide)), T.EF_NoWeb.f _ (by decide)⟩ all0) ht72 (Ev.ix (Ev.lla (Ev.vlo (Ev.nm 7))) (Ev.int (S := .pk)) ht71))) (EvA.cons (Ev.inr (α := (T3 Str Int Int)) (Ev.inl (β := (Int ⊕ (Int × Int))) (Ev.erA (all1 ⟨xf_of (T.EX.X "NotPlane" (by decide)), T.EF_NotPlane.f _ (by decide)⟩ all0) ht74 (Ev.ix (Ev.lla (Ev.vlo (Ev.nm 7))) (Ev.int (S := .pk)) ht73)))) (EvA.cons (Ev.inr (α := (T3 Str Int Int)) (Ev.inr (α := (T3 Int Int Int)) (Ev.inl (β := (Int × Int)) (Ev.erA (all1 ⟨xf_of (T.EX.X "Alike" (by decide)), T.EF_Alike.f _ (by decide)⟩ (all1 ⟨xf_of (T.EX.X "Shared" (by decide)), T.EF_Shared.f _ (by decide)⟩ all0)) ht76 (Ev.ix (Ev.lla (Ev.vlo (Ev.nm 7))) (Ev.int (S := .pk)) ht75))))) (EvA.cons (Ev.inr (α := (T3 Str Int Int)) (Ev.inr (α := (T3 Int Int Int)) (Ev.inl (β := (Int × Int)) (Ev.erA (all1 ⟨xf_of (T.EX.X "TooFew" (by decide)), T.EF_TooFew.f _ (by decide)⟩ (all1 ⟨xf_of (T.EX.X "NotFree" (by decide)), T.EF_NotFree.f _ (by decide)⟩ (all1 ⟨xf_of (T.EX.X "Odd" (by decide)), T.EF_Odd.f _ (by decide)⟩ all0))) ht78 (Ev.ix (Ev.lla (Ev.vlo (Ev.nm 7))) (Ev.int (S := .pk)) ht77))))) (EvA.cons (Ev.inr (α := (T3 Str Int Int)) (Ev.inr (α := (T3 Int Int Int)) (Ev.inl (β := (Int × Int)) (Ev.erA (all1 ⟨xf_of (T.EX.X "TooFew" (by decide)), T.EF_TooFew.f _ (by decide)⟩ (all1 ⟨xf_of (T.EX.X "NotFree" (by decide)), T.EF_NotFree.f _ (by decide)⟩ (all1 ⟨xf_of (T.EX.X "Odd" (by decide)), T.EF_Odd.f _ (by decide)⟩ all0))) ht80 (Ev.ix (Ev.lla (Ev.vlo (Ev.nm 7))) (Ev.int (S := .pk)) ht79))))) (EvA.cons (Ev.inr (α := (T3 Str Int Int)) (Ev.inr (α := (T3 Int Int Int)) (Ev.inl (β := (Int × Int)) (Ev.erA (all1 ⟨xf_of (T.EX.X "NotFilled" (by decide)), T.EF_NotFilled.f _ (by decide)⟩ all0) ht82 (Ev.ix (Ev.lla (Ev.vlo (Ev.nm 7))) (Ev.int (S := .pk)) ht81))))) (EvA.cons (Ev.inr (α := (T3 Str Int Int)) (Ev.inr (α := (T3 Int Int Int)) (Ev.inl (β := (Int × Int)) (Ev.erA (all1 ⟨xf_of (T.EX.X "TooFew" (by decide)), T.EF_TooFew.f _ (by decide)⟩ (all1 ⟨xf_of (T.EX.X "NotFree" (by decide)), T.EF_NotFree.f _ (by decide)⟩ (all1 ⟨xf_of (T.EX.X "Odd" (by decide)), T.EF_Odd.f _ (by decide)⟩ all0))) ht84 (Ev.ix (Ev.lla (Ev.vlo (Ev.nm 7))) (Ev.int (S := .pk)) ht83))))) EvA.nil)))))))))) (Option.some.inj hv85)) (Bk.re (Γ' := [(bo (p0 : Script)), (fz (t9 : (List Int))), (fz (t12 : (Int × Int))), (fz (t14 : (Int × Int))), (fz (t16 : (T3 Str Int Int))), (fz (t18 : (T3 Int Int Int))), (fz (t26 : (List (Er × ((T3 Str Int Int) ⊕ ((T3 Int Int Int) ⊕ (Int ⊕ (Int × Int)))))))), (fz (v52 : (List Er))), (fz (v85 : (List ((T3 Str Int Int) ⊕ ((T3 Int Int Int) ⊕ (Int ⊕ (Int × Int))))))), (fz (v23.a : Int)), (fz (v23.b : Int)), (fz (v23.c : Int)), (fz (v23.d : Int)), un, un, un, un]) (Bk.bnd fun t86 ht86 => Bk.bnd fun t87 ht87 => Bk.bnd fun t88 ht88 => Bk.bnd fun t89 ht89 => Bk.bnd fun t90 ht90 => Bk.asgn 8 sc.nd (Ev.m (EvN.ev (EvN.cat (Ev.vlo (Ev.nm 8)) (Ev.vlo (EvN.ev (EvN.lst (S := .fz) (EvA.cons (Ev.inr (α := (T3 Str Int Int)) (Ev.inr (α := (T3 Int Int Int)) (Ev.inr (α := Int) (Ev.erA (all1 ⟨xf_of (T.EX.X "Bridge" (by decide)), T.EF_Bridge.f _ (by decide)⟩ all0) ht87 (Ev.ix (Ev.lla (Ev.vlo (Ev.nm 7))) (Ev.int (S := .pk)) ht86))))) (EvA.cons (Ev.inr (α := (T3 Str Int Int)) (Ev.inr (α := (T3 Int Int Int)) (Ev.inl (β := (Int × Int)) (Ev.erA (all1 ⟨xf_of (T.EX.X "Alike" (by decide)), T.EF_Alike.f _ (by decide)⟩ (all1 ⟨xf_of (T.EX.X "Shared" (by decide)), T.EF_Shared.f _ (by decide)⟩ all0)) ht89 (Ev.ix (Ev.lla (Ev.vlo (Ev.nm 7))) (Ev.int (S := .pk)) ht88))))) EvA.nil))))) ht90))) (Bk.bnd fun t101 ht101 => Bk.iteR (EvT.not (Ev.t (Ev.sc (T := .pk) (Ev.all rfl T.z_all (Ev.lla (Ev.vlo (EvN.ev (EvN.lc (LcOk.mk (S := .fz) (T := .fz) (τ := (fun (y91 : Int) => [(bo (p0 : Script)), (fz (t9 : (List Int))), (fz (t12 : (Int × Int))), (fz (t14 : (Int × Int))), (fz (t16 : (T3 Str Int Int))), (fz (t18 : (T3 Int Int Int))), (fz (t26 : (List (Er × ((T3 Str Int Int) ⊕ ((T3 Int Int Int) ⊕ (Int ⊕ (Int × Int)))))))), (fz (v52 : (List Er))), (fz (t90 : (List ((T3 Str Int Int) ⊕ ((T3 Int Int Int) ⊕ (Int ⊕ (Int × Int))))))), (fz (v23.a : Int)), (fz (v23.b : Int)), (fz (v23.c : Int)), (fz (v23.d : Int)), (fz (y91 : Int)), un, un, un])) (p := (fun (y91 : Int) => (some true))) (f := (fun (y91 : Int) => ((atI t90 y91).bind fun t93 => ((atI t26 y91).bind fun t94 => ((f_law_same t93 t94.2).bind fun t95 => (some t95)))))) (zs := t101) rfl sc.nd (EvI.range1 (T := .pk) (S' := .fz) T.z_range (Ev.int (S := .pk)) (rng_lit (by decide))) (blkOk_by (own := [("_law_k", 13)]) (N := N_law) (sc := sc_law) (by decide +kernel)) (fun _ _ _ _ _ y91 => (Tg.nameS 13 sc.nd)) (fun _ _ _ _ _ y91 q96 hq97 => EvTs.cast EvTs.nil (Option.some.inj hq97)) (fun _ _ _ _ _ y91 z98 hp100 hz99 => obind hz99 fun t93 ht93 hz99 => obind hz99 fun t94 ht94 hz99 => obind hz99 fun t95 ht95 hz99 => Ev.eq (EvO.ev (EvO.call (as := [abo .fz (t93 : ((T3 Str Int Int) ⊕ ((T3 Int Int Int) ⊕ (Int ⊕ (Int × Int))))), abo .fz (t94.2 : ((T3 Str Int Int) ⊕ ((T3 Int Int Int) ⊕ (Int ⊕ (Int × Int)))))]) (ok_law_same T) (hr.mono (by decide)) ((t93 : ((T3 Str Int Int) ⊕ ((T3 Int Int Int) ⊕ (Int ⊕ (Int × Int))))), (t94.2 : ((T3 Str Int Int) ⊕ ((T3 Int Int Int) ⊕ (Int ⊕ (Int × Int)))))) T.g_law_same T.F_law_same.kp T.b_law_same pass0 (EvH.cons (Ev.ix (Ev.lla (Ev.vlo (Ev.nm 8))) (Ev.nmS (S := .pk) 13) ht93) (EvH.cons (Ev.snd (Ev.ix (Ev.lla (Ev.vlo (Ev.nm 6))) (Ev.nmS (S := .pk) 13) ht94)) EvH.nil)) ⟨ArgOk.bo, ArgOk.bo, trivial⟩ rfl (retD_some ht95) NoB.fz rfl)) (Option.some.inj hz99)) ht101))))))))) (fun hb102 => Bk.ret (Ev.m (Ev.sc (T := .fz) (Ev.bl (S := .pk)))) trivial) (fun hb102 => Bk.re (Γ' := [(bo (p0 : Script)), (fz (t9 : (List Int))), (fz (t12 : (Int × Int))), (fz (t14 : (Int × Int))), (fz (t16 : (T3 Str Int Int))), (fz (t18 : (T3 Int Int Int))), (fz (t26 : (List (Er × ((T3 Str Int Int) ⊕ ((T3 Int Int Int) ⊕ (Int ⊕ (Int × Int)))))))), (fz (v52 : (List Er))), (fz (t90 : (List ((T3 Str Int Int) ⊕ ((T3 Int Int Int) ⊕ (Int ⊕ (Int × Int))))))), (fz (v23.a : Int)), (fz (v23.b : Int)), (fz (v23.c : Int)), (fz (v23.d : Int)), un, un, un, un]) (Bk.bnd fun t103 ht103 => Bk.bnd fun t104 ht104 => Bk.bnd fun t105 ht105 => Bk.bnd fun t110 ht110 => Bk.ret (Ev.m (Ev.sc (T := .fz) (Ev.andP (ob := ((atI v52 (8 : Int)).bind fun t107 => (((erF ["Alike", "Shared"] t107 "other").bind Fv.i).bind fun t108 => ((f_law_same (Sum.inr (Sum.inr (Sum.inl (t108 : Int) : (Int ⊕ (Int × Int))) : ((T3 Int Int Int) ⊕ (Int ⊕ (Int × Int)))) : ((T3 Str Int Int) ⊕ ((T3 Int Int Int) ⊕ (Int ⊕ (Int × Int))))) (Sum.inr (Sum.inr (Sum.inl (t14.2 : Int) : (Int ⊕ (Int × Int))) : ((T3 Int Int Int) ⊕ (Int ⊕ (Int × Int)))) : ((T3 Str Int Int) ⊕ ((T3 Int Int Int) ⊕ (Int ⊕ (Int × Int)))))).bind fun t109 => (some t109))))) (Ev.sc (T := .pk) (EvO.ev (EvO.call (as := [abo .fz ((Sum.inr (Sum.inr (Sum.inl (t104 : Int) : (Int ⊕ (Int × Int))) : ((T3 Int Int Int) ⊕ (Int ⊕ (Int × Int)))) : ((T3 Str Int Int) ⊕ ((T3 Int Int Int) ⊕ (Int ⊕ (Int × Int))))) : ((T3 Str Int Int) ⊕ ((T3 Int Int Int) ⊕ (Int ⊕ (Int × Int))))), abo .fz ((Sum.inr (Sum.inr (Sum.inl (t12.2 : Int) : (Int ⊕ (Int × Int))) : ((T3 Int Int Int) ⊕ (Int ⊕ (Int × Int)))) : ((T3 Str Int Int) ⊕ ((T3 Int Int Int) ⊕ (Int ⊕ (Int × Int))))) : ((T3 Str Int Int) ⊕ ((T3 Int Int Int) ⊕ (Int ⊕ (Int × Int)))))]) (ok_law_same T) (hr.mono (by decide)) (((Sum.inr (Sum.inr (Sum.inl (t104 : Int) : (Int ⊕ (Int × Int))) : ((T3 Int Int Int) ⊕ (Int ⊕ (Int × Int)))) : ((T3 Str Int Int) ⊕ ((T3 Int Int Int) ⊕ (Int ⊕ (Int × Int))))) : ((T3 Str Int Int) ⊕ ((T3 Int Int Int) ⊕ (Int ⊕ (Int × Int))))), ((Sum.inr (Sum.inr (Sum.inl (t12.2 : Int) : (Int ⊕ (Int × Int))) : ((T3 Int Int Int) ⊕ (Int ⊕ (Int × Int)))) : ((T3 Str Int Int) ⊕ ((T3 Int Int Int) ⊕ (Int ⊕ (Int × Int))))) : ((T3 Str Int Int) ⊕ ((T3 Int Int Int) ⊕ (Int ⊕ (Int × Int)))))) T.g_law_same T.F_law_same.kp T.b_law_same pass0 (EvH.cons (Ev.inr (α := (T3 Str Int Int)) (Ev.inr (α := (T3 Int Int Int)) (Ev.inl (β := (Int × Int)) (Ev.erA (all1 ⟨xf_of (T.EX.X "Alike" (by decide)), T.EF_Alike.f _ (by decide)⟩ (all1 ⟨xf_of (T.EX.X "Shared" (by decide)), T.EF_Shared.f _ (by decide)⟩ all0)) ht104 (Ev.ix (Ev.lla (Ev.vlo (Ev.nm 7))) (Ev.int (S := .pk)) ht103))))) (EvH.cons (Ev.inr (α := (T3 Str Int Int)) (Ev.inr (α := (T3 Int Int Int)) (Ev.inl (β := (Int × Int)) (Ev.snd (Ev.nm 2))))) EvH.nil)) ⟨ArgOk.bo, ArgOk.bo, trivial⟩ rfl (retD_some ht105) NoB.fz rfl))) (fun q111 hp106 hq112 => obind hq112 fun t107 ht107 hq112 => obind hq112 fun t108 ht108 hq112 => obind hq112 fun t109 ht109 hq112 => Ev.eq (Ev.and1 (Ev.sc (T := .pk) (EvO.ev (EvO.call (as := [abo .fz ((Sum.inr (Sum.inr (Sum.inl (t108 : Int) : (Int ⊕ (Int × Int))) : ((T3 Int Int Int) ⊕ (Int ⊕ (Int × Int)))) : ((T3 Str Int Int) ⊕ ((T3 Int Int Int) ⊕ (Int ⊕ (Int × Int))))) : ((T3 Str Int Int) ⊕ ((T3 Int Int Int) ⊕ (Int ⊕ (Int × Int))))), abo .fz ((Sum.inr (Sum.inr (Sum.inl (t14.2 : Int) : (Int ⊕ (Int × Int))) : ((T3 Int Int Int) ⊕ (Int ⊕ (Int × Int)))) : ((T3 Str Int Int) ⊕ ((T3 Int Int Int) ⊕ (Int ⊕ (Int × Int))))) : ((T3 Str Int Int) ⊕ ((T3 Int Int Int) ⊕ (Int ⊕ (Int × Int)))))]) (ok_law_same T) (hr.mono (by decide)) (((Sum.inr (Sum.inr (Sum.inl (t108 : Int) : (Int ⊕ (Int × Int))) : ((T3 Int Int Int) ⊕ (Int ⊕ (Int × Int)))) : ((T3 Str Int Int) ⊕ ((T3 Int Int Int) ⊕ (Int ⊕ (Int × Int))))) : ((T3 Str Int Int) ⊕ ((T3 Int Int Int) ⊕ (Int ⊕ (Int × Int))))), ((Sum.inr (Sum.inr (Sum.inl (t14.2 : Int) : (Int ⊕ (Int × Int))) : ((T3 Int Int Int) ⊕ (Int ⊕ (Int × Int)))) : ((T3 Str Int Int) ⊕ ((T3 Int Int Int) ⊕ (Int ⊕ (Int × Int))))) : ((T3 Str Int Int) ⊕ ((T3 Int Int Int) ⊕ (Int ⊕ (Int × Int)))))) T.g_law_same T.F_law_same.kp T.b_law_same pass0 (EvH.cons (Ev.inr (α := (T3 Str Int Int)) (Ev.inr (α := (T3 Int Int Int)) (Ev.inl (β := (Int × Int)) (Ev.erA (all1 ⟨xf_of (T.EX.X "Alike" (by decide)), T.EF_Alike.f _ (by decide)⟩ (all1 ⟨xf_of (T.EX.X "Shared" (by decide)), T.EF_Shared.f _ (by decide)⟩ all0)) ht108 (Ev.ix (Ev.lla (Ev.vlo (Ev.nm 7))) (Ev.int (S := .pk)) ht107))))) (EvH.cons (Ev.inr (α := (T3 Str Int Int)) (Ev.inr (α := (T3 Int Int Int)) (Ev.inl (β := (Int × Int)) (Ev.snd (Ev.nm 3))))) EvH.nil)) ⟨ArgOk.bo, ArgOk.bo, trivial⟩ rfl (retD_some ht109) NoB.fz rfl)))) (Option.some.inj hq112)) ht110))) trivial)))))))))))))))))))))))
open PySem PySem.Spec PyProof.Rows L2
abbrev Du := T3 Str Int Int ⊕ (T3 Int Int Int ⊕ (Int ⊕ (Int × Int)))
theorem cell_ok (ns : List Int) (hl : ns.length ≤ 63) {k : Int} : ∃ c, f_law_cell ⟨ns⟩ k = some c := by
  have h1 : (cut ns (some k) (some (k + 1))).length ≤ 63 := by
    unfold cut
    rw [List.length_take, List.length_drop]; omega
  have key : ∃ c, f_law_cell ⟨ns⟩ k = some c ∧ True := by
    refine Ends.out (G := fun _ => True) ?_
    unfold m_law_cell
    have e : ∃ c, atI (cut ns (some k) (some (k + 1)) ++ [(0 : Int)]) (0 : Int) = some c := by
      cases cut ns (some k) (some (k + 1)) with
      | nil => exact ⟨_, rfl⟩
      | cons z zs => exact ⟨z, atI_nt (j := 0) rfl⟩
    obtain ⟨c, ec⟩ := e
    exact Ends.bind (cat_ok (by simp; omega)) (Ends.bind ec (Ends.ret trivial))
  obtain ⟨c, e, _⟩ := key
  exact ⟨c, e⟩
theorem two_ok (c : Int) {m : Int} (h0 : 3 ≤ m) (h1 : m ≤ 100) : ∃ r, f_law_two c m = some r := by
  have key : ∃ r, f_law_two c m = some r ∧ True := by
    refine Ends.out (G := fun _ => True) ?_
    unfold m_law_two
    have a0 : 0 ≤ c % (m - 1) := Int.emod_nonneg _ (by omega)
    have a1 : c % (m - 1) < m - 1 := Int.emod_lt_of_pos _ (by omega)
    exact Ends.bind (mod_ok (by omega)) (Ends.bind (div_ok (by omega) (by omega)) (Ends.bind (mod_ok (by omega)) (Ends.ret trivial)))
  obtain ⟨r, e, _⟩ := key
  exact ⟨r, e⟩
theorem fault_ok (c : Int) (p : Int × Int) : ∃ r, f_law_fault c p = some r ∧ PyData.strOk r.a = true := by
  refine Ends.out (G := fun r : T3 Str Int Int => PyData.strOk r.a = true) ?_
  unfold m_law_fault
  refine Ends.bind rfl ?_
  by_cases h0 : (decide (c % 5 = 0)) = true
  · exact Ends.t h0 (Ends.ret (by show PyData.strOk (Str.ofString "alien") = true; decide +kernel))
  refine Ends.f h0 ?_
  by_cases h1 : (decide (c % 5 = 1)) = true
  · exact Ends.t h1 (Ends.ret (by show PyData.strOk (Str.ofString "self") = true; decide +kernel))
  refine Ends.f h1 ?_
  by_cases h2 : (decide (c % 5 = 2)) = true
  · exact Ends.t h2 (Ends.ret (by show PyData.strOk (Str.ofString "twice") = true; decide +kernel))
  refine Ends.f h2 ?_
  by_cases h3 : (decide (c % 5 = 3)) = true
  · exact Ends.t h3 (Ends.ret (by show PyData.strOk (Str.ofString "lone") = true; decide +kernel))
  · exact Ends.f h3 (Ends.ret (by show PyData.strOk (Str.ofString "apart") = true; decide +kernel))
def kindsOf (n : Str) : List Bool := [isE n "NoWeb", isE n "NotPlane", isE n "Alike", isE n "TooFew", isE n "NotFree", isE n "NotFilled", isE n "Odd", isE n "Bridge", isE n "Shared", isE n "TooMany", isE n "TooSmall", isE n "NoText", isE n "NoCorner", isE n "NoRing"]
theorem isO_in {ns : List Str} {e : Er} (h : e.nm ∈ ns) {c : Str} : isO ns e c = some (isE e.nm c) := if_pos h
theorem kinds_ok {e : Er} (h : e.nm ∈ nsL) : f_law_kinds e = some (kindsOf e.nm) := by
  have key : ∃ r, f_law_kinds e = some r ∧ r = kindsOf e.nm := by
    refine Ends.out (G := fun r => r = kindsOf e.nm) ?_
    unfold m_law_kinds
    have o : ∀ {c : Str}, isO nsL e c = some (isE e.nm c) := fun {c} => isO_in h
    refine Ends.bind o (Ends.bind o (Ends.bind o (Ends.bind o (Ends.bind rfl (Ends.bind o (Ends.bind o (Ends.bind o (Ends.bind o (Ends.bind (cat_ok (by simp)) (Ends.bind o (Ends.bind o (Ends.bind o (Ends.bind o (Ends.bind (cat_ok (by simp)) (Ends.bind o (Ends.bind o (Ends.bind (cat_ok (by simp)) (Ends.ret rfl))))))))))))))))))
  obtain ⟨r, e, rfl⟩ := key
  exact e
theorem same_ok {x : Du} (h : Dk.ok x = true) : f_law_same x x = some true := by
  unfold f_law_same m_law_same
  rw [eqK_refl h]
  simp [retD]
theorem step_ok {e : Er} (h : e.nm ∈ nsL) {L : List Bool} (hk : kindsOf e.nm = L) {β : Type} : ((isO nsL e "MapError").bind fun t29 => ((if (!t29) = true then some true else ((isO nsL e "ValueError").bind fun t31 => (some (!t31)))).bind fun t32 => (if t32 = true then (some (.rt (false : Bool))) else ((f_law_kinds e).bind fun t36 => (if (!decide (t36 = L)) = true then (some (.rt (false : Bool))) else (some (.nx ()) : Option (Fl Unit β Bool Empty))))))) = some (.nx ()) := by
  have m1 : isE e.nm "MapError" = true := by unfold isE; simp
  have m2 : isE e.nm "ValueError" = true := by unfold isE; simp
  rw [isO_in h, isO_in h, m1, m2, kinds_ok h, hk]
  simp
theorem lcD_all {f : Int → Option Bool} : ∀ xs : List Int, (∀ x ∈ xs, f x = some true) → ∃ zs, lcD xs (fun _ => some true) f = some zs ∧ zs.all id = true
  | [], _ => ⟨[], rfl, rfl⟩
  | x :: xs, h => by
    obtain ⟨zs, e, k⟩ := lcD_all xs fun y hy => h y (List.mem_cons_of_mem _ hy)
    refine ⟨true :: zs, ?_, by simp [k]⟩
    unfold lcD
    rw [h x List.mem_cons_self, e]
    rfl
abbrev dI (n : Int) : Du := .inr (.inr (.inl n))
theorem law_true (ns : List Int) (hl : ns.length ≤ 63) (_ : ∀ z ∈ ns, Builtin.Int.intBits z ≤ 1048576) : f_law ⟨ns⟩ = some true := by
  have key : ∃ z, f_law ⟨ns⟩ = some z ∧ z = true := by
    refine Ends.out (G := fun z => z = true) ?_
    unfold m_law
    obtain ⟨c0, e0⟩ := cell_ok ns hl (k := 0)
    obtain ⟨c1, e1⟩ := cell_ok ns hl (k := 1)
    obtain ⟨c2, e2⟩ := cell_ok ns hl (k := 2)
    obtain ⟨c3, e3⟩ := cell_ok ns hl (k := 3)
    obtain ⟨c4, e4⟩ := cell_ok ns hl (k := 4)
    obtain ⟨c5, e5⟩ := cell_ok ns hl (k := 5)
    obtain ⟨c6, e6⟩ := cell_ok ns hl (k := 6)
    obtain ⟨c7, e7⟩ := cell_ok ns hl (k := 7)
    have er : rangeI 0 (8 : Int) = [0, 1, 2, 3, 4, 5, 6, 7] := by decide
    have es : lcD (rangeI 0 (8 : Int)) (fun (y1 : Int) => (some true)) (fun (y1 : Int) => ((f_law_cell ⟨ns⟩ y1).bind fun t3 => (some t3))) = some [c0, c1, c2, c3, c4, c5, c6, c7] := by
      rw [er]
      simp only [lcD, e0, e1, e2, e3, e4, e5, e6, e7, Option.bind_some, if_true]
    obtain ⟨p, ep⟩ := two_ok c0 (m := 14) (by decide) (by decide)
    obtain ⟨q, eq⟩ := two_ok c1 (m := 24) (by decide) (by decide)
    obtain ⟨g, eg, gok⟩ := fault_ok c2 p
    obtain ⟨s, esm⟩ : ∃ s, f_law_count c3 = some s := ⟨_, rfl⟩
    let w0 : Er := ⟨"NoWeb", [("fault", .ft g.a g.b g.c)]⟩
    let w1 : Er := ⟨"NotPlane", [("counted", .t3 s.a s.b s.c)]⟩
    let w2 : Er := ⟨"Alike", [("one", .int p.1), ("other", .int p.2)]⟩
    let w3 : Er := ⟨"TooFew", [("point", .int (c4 % 14))]⟩
    let w4 : Er := ⟨"NotFree", [("point", .int (c5 % 14))]⟩
    let w5 : Er := ⟨"NotFilled", [("land", .int (c6 % 24))]⟩
    let w6 : Er := ⟨"Odd", [("point", .int (c7 % 14))]⟩
    let w7 : Er := ⟨"Bridge", [("tie", .pr p.1 p.2)]⟩
    let w8 : Er := ⟨"Shared", [("one", .int q.1), ("other", .int q.2)]⟩
    let F : List (Er × Du) := [(w0, .inl g), (w1, .inr (.inl s)), (w2, dI p.1), (w3, dI (c4 % 14)), (w4, dI (c5 % 14)), (w5, dI (c6 % 24)), (w6, dI (c7 % 14)), (w7, .inr (.inr (.inr p))), (w8, dI q.1)]
    refine Ends.bind es (Ends.bind rfl (Ends.bind ep (Ends.bind rfl (Ends.bind eq (Ends.bind rfl (Ends.bind eg (Ends.bind rfl (Ends.bind esm (Ends.bind rfl (Ends.bind rfl (Ends.bind rfl (Ends.bind rfl (Ends.bind rfl (Ends.bind rfl (Ends.bind (cat_ok (by simp)) (Ends.bind (a := F) (cat_ok (by simp)) ?_))))))))))))))))
    refine Ends.seq (P := fun _ : Unit => True) ⟨(), ?_, trivial⟩ fun _ _ => Ends.bind (a := [w0, w1, w2, w3, w4, w5, w6, w7, w8]) rfl (Ends.seq (P := fun _ : Unit => True) ⟨(), ?_, trivial⟩ fun _ _ => ?_)
    · refine forD_unit _ fun y hy => ?_
      have hy : y = (0, ⟨"TooMany", []⟩) ∨ y = (1, ⟨"TooSmall", []⟩) ∨ y = (2, ⟨"NoText", []⟩) ∨ y = (3, ⟨"NoCorner", []⟩) ∨ y = (4, ⟨"NoRing", []⟩) := by simpa [enumL] using hy
      rcases hy with rfl | rfl | rfl | rfl | rfl <;> exact step_ok (by decide) (by decide +kernel)
    · refine forD_unit _ fun y hy => ?_
      have hy : y = (0, w0) ∨ y = (1, w1) ∨ y = (2, w2) ∨ y = (3, w3) ∨ y = (4, w4) ∨ y = (5, w5) ∨ y = (6, w6) ∨ y = (7, w7) ∨ y = (8, w8) := by simpa [enumL] using hy
      rcases hy with rfl | rfl | rfl | rfl | rfl | rfl | rfl | rfl | rfl
      · exact step_ok (e := w0) (show (Str.ofString "NoWeb") ∈ nsL by decide) (show kindsOf "NoWeb" = List.map (fun y63 : Int => decide ((0 : Int) = y63)) (rangeI 0 14) by decide +kernel)
      · exact step_ok (e := w1) (show (Str.ofString "NotPlane") ∈ nsL by decide) (show kindsOf "NotPlane" = List.map (fun y63 : Int => decide ((1 : Int) = y63)) (rangeI 0 14) by decide +kernel)
      · exact step_ok (e := w2) (show (Str.ofString "Alike") ∈ nsL by decide) (show kindsOf "Alike" = List.map (fun y63 : Int => decide ((2 : Int) = y63)) (rangeI 0 14) by decide +kernel)
      · exact step_ok (e := w3) (show (Str.ofString "TooFew") ∈ nsL by decide) (show kindsOf "TooFew" = List.map (fun y63 : Int => decide ((3 : Int) = y63)) (rangeI 0 14) by decide +kernel)
      · exact step_ok (e := w4) (show (Str.ofString "NotFree") ∈ nsL by decide) (show kindsOf "NotFree" = List.map (fun y63 : Int => decide ((4 : Int) = y63)) (rangeI 0 14) by decide +kernel)
      · exact step_ok (e := w5) (show (Str.ofString "NotFilled") ∈ nsL by decide) (show kindsOf "NotFilled" = List.map (fun y63 : Int => decide ((5 : Int) = y63)) (rangeI 0 14) by decide +kernel)
      · exact step_ok (e := w6) (show (Str.ofString "Odd") ∈ nsL by decide) (show kindsOf "Odd" = List.map (fun y63 : Int => decide ((6 : Int) = y63)) (rangeI 0 14) by decide +kernel)
      · exact step_ok (e := w7) (show (Str.ofString "Bridge") ∈ nsL by decide) (show kindsOf "Bridge" = List.map (fun y63 : Int => decide ((7 : Int) = y63)) (rangeI 0 14) by decide +kernel)
      · exact step_ok (e := w8) (show (Str.ofString "Shared") ∈ nsL by decide) (show kindsOf "Shared" = List.map (fun y63 : Int => decide ((8 : Int) = y63)) (rangeI 0 14) by decide +kernel)
    let D : List Du := [.inl g, .inr (.inl s), dI p.1, dI (c4 % 14), dI (c5 % 14), dI (c6 % 24), dI (c7 % 14), .inr (.inr (.inr p)), dI q.1]
    have k0 : Dk.ok (.inl g : Du) = true := by
      show (PyData.strOk g.a && _) = true
      rw [gok]; rfl
    obtain ⟨zs, all, hz⟩ : ∃ zs, lcD (rangeI 0 (9 : Int)) (fun (y91 : Int) => (some true)) (fun (y91 : Int) => ((atI D y91).bind fun t93 => ((atI F y91).bind fun t94 => ((f_law_same t93 t94.2).bind fun t95 => (some t95))))) = some zs ∧ zs.all id = true := lcD_all _ fun y hy => by
      have one : ∀ {j : Nat} {x : Du} {w : Er}, D[j]? = some x → F[j]? = some (w, x) → Dk.ok x = true → ((atI D (j : Int)).bind fun t93 => ((atI F (j : Int)).bind fun t94 => ((f_law_same t93 t94.2).bind fun t95 => (some t95)))) = some true := fun h1 h2 h3 => by
        rw [atI_nt h1, Option.bind_some, atI_nt h2, Option.bind_some, same_ok h3]; rfl
      obtain ⟨h0, h1⟩ := rangeI_mem.mp hy
      obtain ⟨j, rfl⟩ : ∃ j : Nat, y = (j : Int) := ⟨y.toNat, by omega⟩
      have : j = 0 ∨ j = 1 ∨ j = 2 ∨ j = 3 ∨ j = 4 ∨ j = 5 ∨ j = 6 ∨ j = 7 ∨ j = 8 := by omega
      rcases this with rfl | rfl | rfl | rfl | rfl | rfl | rfl | rfl | rfl
      · exact one rfl rfl k0
      · exact one rfl rfl rfl
      · exact one rfl rfl rfl
      · exact one rfl rfl rfl
      · exact one rfl rfl rfl
      · exact one rfl rfl rfl
      · exact one rfl rfl rfl
      · exact one rfl rfl rfl
      · exact one rfl rfl rfl
    refine Ends.bind rfl (Ends.bind rfl (Ends.bind rfl (Ends.bind rfl (Ends.bind rfl (Ends.bind rfl (Ends.bind rfl (Ends.bind rfl (Ends.bind rfl (Ends.bind rfl (Ends.bind rfl (Ends.bind rfl (Ends.bind rfl (Ends.bind rfl (Ends.bind rfl (Ends.bind rfl (Ends.bind rfl (Ends.bind rfl (Ends.bind rfl (Ends.bind (a := D) (cat_ok (by simp)) (Ends.bind all (Ends.f (by rw [hz]; decide) (Ends.bind rfl (Ends.bind rfl (Ends.bind (same_ok rfl) (Ends.bind (a := true) ?_ (Ends.ret rfl))))))))))))))))))))))))))
    rw [if_pos rfl]
    show (f_law_same (dI q.2) (dI q.2)).bind _ = _
    rw [same_ok rfl]; rfl
  obtain ⟨z, e, rfl⟩ := key
  exact e
open PySem PySem.Spec PyProof.Rows L2
open Rp (rp)
theorem all_mk {w : World} {K : Frag} {h : Heap} {mg : Str → Option Value} {fa : Addr} (X : K.In h) (G : h.Ns mainGlobals mg) (hfa : mg "law" = some (.ref fa))
    {f_NoWeb___init__ : Addr} {od_NoWeb___init__ an_NoWeb___init__ : Option Addr} {sl_NoWeb___init__ : Array (Option Value)} {oc_NoWeb___init__ kV_NoWeb___init__ dc_NoWeb___init__ pm_NoWeb___init__ cd_NoWeb___init__ ct_NoWeb___init__ : Value}
    {f_NotPlane___init__ : Addr} {od_NotPlane___init__ an_NotPlane___init__ : Option Addr} {sl_NotPlane___init__ : Array (Option Value)} {oc_NotPlane___init__ kV_NotPlane___init__ dc_NotPlane___init__ pm_NotPlane___init__ cd_NotPlane___init__ ct_NotPlane___init__ : Value}
    {f_Alike___init__ : Addr} {od_Alike___init__ an_Alike___init__ : Option Addr} {sl_Alike___init__ : Array (Option Value)} {oc_Alike___init__ kV_Alike___init__ dc_Alike___init__ pm_Alike___init__ cd_Alike___init__ ct_Alike___init__ : Value}
    {f_TooFew___init__ : Addr} {od_TooFew___init__ an_TooFew___init__ : Option Addr} {sl_TooFew___init__ : Array (Option Value)} {oc_TooFew___init__ kV_TooFew___init__ dc_TooFew___init__ pm_TooFew___init__ cd_TooFew___init__ ct_TooFew___init__ : Value}
    {f_NotFree___init__ : Addr} {od_NotFree___init__ an_NotFree___init__ : Option Addr} {sl_NotFree___init__ : Array (Option Value)} {oc_NotFree___init__ kV_NotFree___init__ dc_NotFree___init__ pm_NotFree___init__ cd_NotFree___init__ ct_NotFree___init__ : Value}
    {f_NotFilled___init__ : Addr} {od_NotFilled___init__ an_NotFilled___init__ : Option Addr} {sl_NotFilled___init__ : Array (Option Value)} {oc_NotFilled___init__ kV_NotFilled___init__ dc_NotFilled___init__ pm_NotFilled___init__ cd_NotFilled___init__ ct_NotFilled___init__ : Value}
    {f_Odd___init__ : Addr} {od_Odd___init__ an_Odd___init__ : Option Addr} {sl_Odd___init__ : Array (Option Value)} {oc_Odd___init__ kV_Odd___init__ dc_Odd___init__ pm_Odd___init__ cd_Odd___init__ ct_Odd___init__ : Value}
    {f_Bridge___init__ : Addr} {od_Bridge___init__ an_Bridge___init__ : Option Addr} {sl_Bridge___init__ : Array (Option Value)} {oc_Bridge___init__ kV_Bridge___init__ dc_Bridge___init__ pm_Bridge___init__ cd_Bridge___init__ ct_Bridge___init__ : Value}
    {f_Shared___init__ : Addr} {od_Shared___init__ an_Shared___init__ : Option Addr} {sl_Shared___init__ : Array (Option Value)} {oc_Shared___init__ kV_Shared___init__ dc_Shared___init__ pm_Shared___init__ cd_Shared___init__ ct_Shared___init__ : Value}
    {f_law_cell : Addr} {od_law_cell an_law_cell : Option Addr} {sl_law_cell : Array (Option Value)} {oc_law_cell kV_law_cell dc_law_cell pm_law_cell cd_law_cell ct_law_cell : Value}
    {f_law_two : Addr} {od_law_two an_law_two : Option Addr} {sl_law_two : Array (Option Value)} {oc_law_two kV_law_two dc_law_two pm_law_two cd_law_two ct_law_two : Value}
    {f_law_fault : Addr} {od_law_fault an_law_fault : Option Addr} {sl_law_fault : Array (Option Value)} {oc_law_fault kV_law_fault dc_law_fault pm_law_fault cd_law_fault ct_law_fault : Value}
    {f_law_count : Addr} {od_law_count an_law_count : Option Addr} {sl_law_count : Array (Option Value)} {oc_law_count kV_law_count dc_law_count pm_law_count cd_law_count ct_law_count : Value}
    {f_law_kinds : Addr} {od_law_kinds an_law_kinds : Option Addr} {sl_law_kinds : Array (Option Value)} {oc_law_kinds kV_law_kinds dc_law_kinds pm_law_kinds cd_law_kinds ct_law_kinds : Value}
    {f_law_same : Addr} {od_law_same an_law_same : Option Addr} {sl_law_same : Array (Option Value)} {oc_law_same kV_law_same dc_law_same pm_law_same cd_law_same ct_law_same : Value}
    {f_law : Addr} {od_law an_law : Option Addr} {sl_law : Array (Option Value)} {oc_law kV_law dc_law pm_law cd_law ct_law : Value}
    {C_NoWeb : Addr}
    {C_NotPlane : Addr}
    {C_Alike : Addr}
    {C_TooFew : Addr}
    {C_NotFree : Addr}
    {C_NotFilled : Addr}
    {C_Odd : Addr}
    {C_Bridge : Addr}
    {C_Shared : Addr}
    {C_TooMany : Addr}
    {C_TooSmall : Addr}
    {C_NoText : Addr}
    {C_NoCorner : Addr}
    {C_NoRing : Addr}
    {C_MapError : Addr}
    {nm_NoWeb qn_NoWeb : Str} {N_NoWeb_ : Addr} {bs_NoWeb bm_NoWeb : List Value} {sn_NoWeb : List Str} {sb_NoWeb : List Value} {ab_NoWeb : Bool} {co_NoWeb : Option Bool} {dd_NoWeb : Option Addr} {k0_NoWeb k1_NoWeb k2_NoWeb k3_NoWeb k5_NoWeb : Option Value}
    {nm_NotPlane qn_NotPlane : Str} {N_NotPlane_ : Addr} {bs_NotPlane bm_NotPlane : List Value} {sn_NotPlane : List Str} {sb_NotPlane : List Value} {ab_NotPlane : Bool} {co_NotPlane : Option Bool} {dd_NotPlane : Option Addr} {k0_NotPlane k1_NotPlane k2_NotPlane k3_NotPlane k5_NotPlane : Option Value}
    {nm_Alike qn_Alike : Str} {N_Alike_ : Addr} {bs_Alike bm_Alike : List Value} {sn_Alike : List Str} {sb_Alike : List Value} {ab_Alike : Bool} {co_Alike : Option Bool} {dd_Alike : Option Addr} {k0_Alike k1_Alike k2_Alike k3_Alike k5_Alike : Option Value}
    {nm_TooFew qn_TooFew : Str} {N_TooFew_ : Addr} {bs_TooFew bm_TooFew : List Value} {sn_TooFew : List Str} {sb_TooFew : List Value} {ab_TooFew : Bool} {co_TooFew : Option Bool} {dd_TooFew : Option Addr} {k0_TooFew k1_TooFew k2_TooFew k3_TooFew k5_TooFew : Option Value}
    {nm_NotFree qn_NotFree : Str} {N_NotFree_ : Addr} {bs_NotFree bm_NotFree : List Value} {sn_NotFree : List Str} {sb_NotFree : List Value} {ab_NotFree : Bool} {co_NotFree : Option Bool} {dd_NotFree : Option Addr} {k0_NotFree k1_NotFree k2_NotFree k3_NotFree k5_NotFree : Option Value}
    {nm_NotFilled qn_NotFilled : Str} {N_NotFilled_ : Addr} {bs_NotFilled bm_NotFilled : List Value} {sn_NotFilled : List Str} {sb_NotFilled : List Value} {ab_NotFilled : Bool} {co_NotFilled : Option Bool} {dd_NotFilled : Option Addr} {k0_NotFilled k1_NotFilled k2_NotFilled k3_NotFilled k5_NotFilled : Option Value}
    {nm_Odd qn_Odd : Str} {N_Odd_ : Addr} {bs_Odd bm_Odd : List Value} {sn_Odd : List Str} {sb_Odd : List Value} {ab_Odd : Bool} {co_Odd : Option Bool} {dd_Odd : Option Addr} {k0_Odd k1_Odd k2_Odd k3_Odd k5_Odd : Option Value}
    {nm_Bridge qn_Bridge : Str} {N_Bridge_ : Addr} {bs_Bridge bm_Bridge : List Value} {sn_Bridge : List Str} {sb_Bridge : List Value} {ab_Bridge : Bool} {co_Bridge : Option Bool} {dd_Bridge : Option Addr} {k0_Bridge k1_Bridge k2_Bridge k3_Bridge k5_Bridge : Option Value}
    {nm_Shared qn_Shared : Str} {N_Shared_ : Addr} {bs_Shared bm_Shared : List Value} {sn_Shared : List Str} {sb_Shared : List Value} {ab_Shared : Bool} {co_Shared : Option Bool} {dd_Shared : Option Addr} {k0_Shared k1_Shared k2_Shared k3_Shared k5_Shared : Option Value}
    (aC_NoWeb : PySem.W.nsIn K mainGlobals "NoWeb" = some (some (.ref C_NoWeb)))
    (aC_NotPlane : PySem.W.nsIn K mainGlobals "NotPlane" = some (some (.ref C_NotPlane)))
    (aC_Alike : PySem.W.nsIn K mainGlobals "Alike" = some (some (.ref C_Alike)))
    (aC_TooFew : PySem.W.nsIn K mainGlobals "TooFew" = some (some (.ref C_TooFew)))
    (aC_NotFree : PySem.W.nsIn K mainGlobals "NotFree" = some (some (.ref C_NotFree)))
    (aC_NotFilled : PySem.W.nsIn K mainGlobals "NotFilled" = some (some (.ref C_NotFilled)))
    (aC_Odd : PySem.W.nsIn K mainGlobals "Odd" = some (some (.ref C_Odd)))
    (aC_Bridge : PySem.W.nsIn K mainGlobals "Bridge" = some (some (.ref C_Bridge)))
    (aC_Shared : PySem.W.nsIn K mainGlobals "Shared" = some (some (.ref C_Shared)))
    (aC_TooMany : PySem.W.nsIn K mainGlobals "TooMany" = some (some (.ref C_TooMany)))
    (aC_TooSmall : PySem.W.nsIn K mainGlobals "TooSmall" = some (some (.ref C_TooSmall)))
    (aC_NoText : PySem.W.nsIn K mainGlobals "NoText" = some (some (.ref C_NoText)))
    (aC_NoCorner : PySem.W.nsIn K mainGlobals "NoCorner" = some (some (.ref C_NoCorner)))
    (aC_NoRing : PySem.W.nsIn K mainGlobals "NoRing" = some (some (.ref C_NoRing)))
    (aC_MapError : PySem.W.nsIn K mainGlobals "MapError" = some (some (.ref C_MapError)))
    (a_NoWeb___init__ : PySem.W.findIn K (.ref C_NoWeb) "__init__" = some (some (.ref f_NoWeb___init__)))
    (i_NoWeb___init__ : PySem.W.isFn K (.ref f_NoWeb___init__) = true)
    (l_NoWeb___init__ : K.lookup f_NoWeb___init__ = some ⟨oc_NoWeb___init__, od_NoWeb___init__, .func (PySem.W.fnOf "__init__" "NoWeb.__init__" (defArgs s_NoWeb___init__) (defBody s_NoWeb___init__) (defScope s_NoWeb___init__) .none kV_NoWeb___init__ dc_NoWeb___init__ pm_NoWeb___init__ an_NoWeb___init__ cd_NoWeb___init__ ct_NoWeb___init__), sl_NoWeb___init__⟩)
    (c_NoWeb___init__ : PySem.W.codeIn K cd_NoWeb___init__ "NoWeb.__init__" = true)
    (k_NoWeb___init__ : PySem.W.keepIn K (.ref f_NoWeb___init__) = true)
    (a_NotPlane___init__ : PySem.W.findIn K (.ref C_NotPlane) "__init__" = some (some (.ref f_NotPlane___init__)))
    (i_NotPlane___init__ : PySem.W.isFn K (.ref f_NotPlane___init__) = true)
    (l_NotPlane___init__ : K.lookup f_NotPlane___init__ = some ⟨oc_NotPlane___init__, od_NotPlane___init__, .func (PySem.W.fnOf "__init__" "NotPlane.__init__" (defArgs s_NotPlane___init__) (defBody s_NotPlane___init__) (defScope s_NotPlane___init__) .none kV_NotPlane___init__ dc_NotPlane___init__ pm_NotPlane___init__ an_NotPlane___init__ cd_NotPlane___init__ ct_NotPlane___init__), sl_NotPlane___init__⟩)
    (c_NotPlane___init__ : PySem.W.codeIn K cd_NotPlane___init__ "NotPlane.__init__" = true)
    (k_NotPlane___init__ : PySem.W.keepIn K (.ref f_NotPlane___init__) = true)
    (a_Alike___init__ : PySem.W.findIn K (.ref C_Alike) "__init__" = some (some (.ref f_Alike___init__)))
    (i_Alike___init__ : PySem.W.isFn K (.ref f_Alike___init__) = true)
    (l_Alike___init__ : K.lookup f_Alike___init__ = some ⟨oc_Alike___init__, od_Alike___init__, .func (PySem.W.fnOf "__init__" "Alike.__init__" (defArgs s_Alike___init__) (defBody s_Alike___init__) (defScope s_Alike___init__) .none kV_Alike___init__ dc_Alike___init__ pm_Alike___init__ an_Alike___init__ cd_Alike___init__ ct_Alike___init__), sl_Alike___init__⟩)
    (c_Alike___init__ : PySem.W.codeIn K cd_Alike___init__ "Alike.__init__" = true)
    (k_Alike___init__ : PySem.W.keepIn K (.ref f_Alike___init__) = true)
    (a_TooFew___init__ : PySem.W.findIn K (.ref C_TooFew) "__init__" = some (some (.ref f_TooFew___init__)))
    (i_TooFew___init__ : PySem.W.isFn K (.ref f_TooFew___init__) = true)
    (l_TooFew___init__ : K.lookup f_TooFew___init__ = some ⟨oc_TooFew___init__, od_TooFew___init__, .func (PySem.W.fnOf "__init__" "TooFew.__init__" (defArgs s_TooFew___init__) (defBody s_TooFew___init__) (defScope s_TooFew___init__) .none kV_TooFew___init__ dc_TooFew___init__ pm_TooFew___init__ an_TooFew___init__ cd_TooFew___init__ ct_TooFew___init__), sl_TooFew___init__⟩)
    (c_TooFew___init__ : PySem.W.codeIn K cd_TooFew___init__ "TooFew.__init__" = true)
    (k_TooFew___init__ : PySem.W.keepIn K (.ref f_TooFew___init__) = true)
    (a_NotFree___init__ : PySem.W.findIn K (.ref C_NotFree) "__init__" = some (some (.ref f_NotFree___init__)))
    (i_NotFree___init__ : PySem.W.isFn K (.ref f_NotFree___init__) = true)
    (l_NotFree___init__ : K.lookup f_NotFree___init__ = some ⟨oc_NotFree___init__, od_NotFree___init__, .func (PySem.W.fnOf "__init__" "NotFree.__init__" (defArgs s_NotFree___init__) (defBody s_NotFree___init__) (defScope s_NotFree___init__) .none kV_NotFree___init__ dc_NotFree___init__ pm_NotFree___init__ an_NotFree___init__ cd_NotFree___init__ ct_NotFree___init__), sl_NotFree___init__⟩)
    (c_NotFree___init__ : PySem.W.codeIn K cd_NotFree___init__ "NotFree.__init__" = true)
    (k_NotFree___init__ : PySem.W.keepIn K (.ref f_NotFree___init__) = true)
    (a_NotFilled___init__ : PySem.W.findIn K (.ref C_NotFilled) "__init__" = some (some (.ref f_NotFilled___init__)))
    (i_NotFilled___init__ : PySem.W.isFn K (.ref f_NotFilled___init__) = true)
    (l_NotFilled___init__ : K.lookup f_NotFilled___init__ = some ⟨oc_NotFilled___init__, od_NotFilled___init__, .func (PySem.W.fnOf "__init__" "NotFilled.__init__" (defArgs s_NotFilled___init__) (defBody s_NotFilled___init__) (defScope s_NotFilled___init__) .none kV_NotFilled___init__ dc_NotFilled___init__ pm_NotFilled___init__ an_NotFilled___init__ cd_NotFilled___init__ ct_NotFilled___init__), sl_NotFilled___init__⟩)
    (c_NotFilled___init__ : PySem.W.codeIn K cd_NotFilled___init__ "NotFilled.__init__" = true)
    (k_NotFilled___init__ : PySem.W.keepIn K (.ref f_NotFilled___init__) = true)
    (a_Odd___init__ : PySem.W.findIn K (.ref C_Odd) "__init__" = some (some (.ref f_Odd___init__)))
    (i_Odd___init__ : PySem.W.isFn K (.ref f_Odd___init__) = true)
    (l_Odd___init__ : K.lookup f_Odd___init__ = some ⟨oc_Odd___init__, od_Odd___init__, .func (PySem.W.fnOf "__init__" "Odd.__init__" (defArgs s_Odd___init__) (defBody s_Odd___init__) (defScope s_Odd___init__) .none kV_Odd___init__ dc_Odd___init__ pm_Odd___init__ an_Odd___init__ cd_Odd___init__ ct_Odd___init__), sl_Odd___init__⟩)
    (c_Odd___init__ : PySem.W.codeIn K cd_Odd___init__ "Odd.__init__" = true)
    (k_Odd___init__ : PySem.W.keepIn K (.ref f_Odd___init__) = true)
    (a_Bridge___init__ : PySem.W.findIn K (.ref C_Bridge) "__init__" = some (some (.ref f_Bridge___init__)))
    (i_Bridge___init__ : PySem.W.isFn K (.ref f_Bridge___init__) = true)
    (l_Bridge___init__ : K.lookup f_Bridge___init__ = some ⟨oc_Bridge___init__, od_Bridge___init__, .func (PySem.W.fnOf "__init__" "Bridge.__init__" (defArgs s_Bridge___init__) (defBody s_Bridge___init__) (defScope s_Bridge___init__) .none kV_Bridge___init__ dc_Bridge___init__ pm_Bridge___init__ an_Bridge___init__ cd_Bridge___init__ ct_Bridge___init__), sl_Bridge___init__⟩)
    (c_Bridge___init__ : PySem.W.codeIn K cd_Bridge___init__ "Bridge.__init__" = true)
    (k_Bridge___init__ : PySem.W.keepIn K (.ref f_Bridge___init__) = true)
    (a_Shared___init__ : PySem.W.findIn K (.ref C_Shared) "__init__" = some (some (.ref f_Shared___init__)))
    (i_Shared___init__ : PySem.W.isFn K (.ref f_Shared___init__) = true)
    (l_Shared___init__ : K.lookup f_Shared___init__ = some ⟨oc_Shared___init__, od_Shared___init__, .func (PySem.W.fnOf "__init__" "Shared.__init__" (defArgs s_Shared___init__) (defBody s_Shared___init__) (defScope s_Shared___init__) .none kV_Shared___init__ dc_Shared___init__ pm_Shared___init__ an_Shared___init__ cd_Shared___init__ ct_Shared___init__), sl_Shared___init__⟩)
    (c_Shared___init__ : PySem.W.codeIn K cd_Shared___init__ "Shared.__init__" = true)
    (k_Shared___init__ : PySem.W.keepIn K (.ref f_Shared___init__) = true)
    (a_law_cell : PySem.W.nsIn K mainGlobals "_law_cell" = some (some (.ref f_law_cell)))
    (l_law_cell : K.lookup f_law_cell = some ⟨oc_law_cell, od_law_cell, .func (PySem.W.fnOf "_law_cell" "_law_cell" (defArgs s_law_cell) (defBody s_law_cell) (defScope s_law_cell) .none kV_law_cell dc_law_cell pm_law_cell an_law_cell cd_law_cell ct_law_cell), sl_law_cell⟩)
    (c_law_cell : PySem.W.codeIn K cd_law_cell "_law_cell" = true)
    (k_law_cell : PySem.W.keepIn K (.ref f_law_cell) = true)
    (a_law_two : PySem.W.nsIn K mainGlobals "_law_two" = some (some (.ref f_law_two)))
    (l_law_two : K.lookup f_law_two = some ⟨oc_law_two, od_law_two, .func (PySem.W.fnOf "_law_two" "_law_two" (defArgs s_law_two) (defBody s_law_two) (defScope s_law_two) .none kV_law_two dc_law_two pm_law_two an_law_two cd_law_two ct_law_two), sl_law_two⟩)
    (c_law_two : PySem.W.codeIn K cd_law_two "_law_two" = true)
    (k_law_two : PySem.W.keepIn K (.ref f_law_two) = true)
    (a_law_fault : PySem.W.nsIn K mainGlobals "_law_fault" = some (some (.ref f_law_fault)))
    (l_law_fault : K.lookup f_law_fault = some ⟨oc_law_fault, od_law_fault, .func (PySem.W.fnOf "_law_fault" "_law_fault" (defArgs s_law_fault) (defBody s_law_fault) (defScope s_law_fault) .none kV_law_fault dc_law_fault pm_law_fault an_law_fault cd_law_fault ct_law_fault), sl_law_fault⟩)
    (c_law_fault : PySem.W.codeIn K cd_law_fault "_law_fault" = true)
    (k_law_fault : PySem.W.keepIn K (.ref f_law_fault) = true)
    (a_law_count : PySem.W.nsIn K mainGlobals "_law_count" = some (some (.ref f_law_count)))
    (l_law_count : K.lookup f_law_count = some ⟨oc_law_count, od_law_count, .func (PySem.W.fnOf "_law_count" "_law_count" (defArgs s_law_count) (defBody s_law_count) (defScope s_law_count) .none kV_law_count dc_law_count pm_law_count an_law_count cd_law_count ct_law_count), sl_law_count⟩)
    (c_law_count : PySem.W.codeIn K cd_law_count "_law_count" = true)
    (k_law_count : PySem.W.keepIn K (.ref f_law_count) = true)
    (a_law_kinds : PySem.W.nsIn K mainGlobals "_law_kinds" = some (some (.ref f_law_kinds)))
    (l_law_kinds : K.lookup f_law_kinds = some ⟨oc_law_kinds, od_law_kinds, .func (PySem.W.fnOf "_law_kinds" "_law_kinds" (defArgs s_law_kinds) (defBody s_law_kinds) (defScope s_law_kinds) .none kV_law_kinds dc_law_kinds pm_law_kinds an_law_kinds cd_law_kinds ct_law_kinds), sl_law_kinds⟩)
    (c_law_kinds : PySem.W.codeIn K cd_law_kinds "_law_kinds" = true)
    (k_law_kinds : PySem.W.keepIn K (.ref f_law_kinds) = true)
    (a_law_same : PySem.W.nsIn K mainGlobals "_law_same" = some (some (.ref f_law_same)))
    (l_law_same : K.lookup f_law_same = some ⟨oc_law_same, od_law_same, .func (PySem.W.fnOf "_law_same" "_law_same" (defArgs s_law_same) (defBody s_law_same) (defScope s_law_same) .none kV_law_same dc_law_same pm_law_same an_law_same cd_law_same ct_law_same), sl_law_same⟩)
    (c_law_same : PySem.W.codeIn K cd_law_same "_law_same" = true)
    (k_law_same : PySem.W.keepIn K (.ref f_law_same) = true)
    (a_law : PySem.W.nsIn K mainGlobals "law" = some (some (.ref f_law)))
    (l_law : K.lookup f_law = some ⟨oc_law, od_law, .func (PySem.W.fnOf "law" "law" (defArgs s_law) (defBody s_law) (defScope s_law) .none kV_law dc_law pm_law an_law cd_law ct_law), sl_law⟩)
    (c_law : PySem.W.codeIn K cd_law "law" = true)
    (k_law : PySem.W.keepIn K (.ref f_law) = true)
    (z_ValueError : PySem.W.nsIn K mainGlobals "ValueError" = some none)
    (z_all : PySem.W.nsIn K mainGlobals "all" = some none)
    (z_bool : PySem.W.nsIn K mainGlobals "bool" = some none)
    (z_enumerate : PySem.W.nsIn K mainGlobals "enumerate" = some none)
    (z_isinstance : PySem.W.nsIn K mainGlobals "isinstance" = some none)
    (z_range : PySem.W.nsIn K mainGlobals "range" = some none)
    (xn : PySem.W.specialIn K (.builtin "object.__class__") "__get__" = some (some (.builtin "getset_descriptor.__get__")))
    (xt : PySem.W.takesIn K (.builtin "object.__class__") = some true)
    (xs_NoWeb : PySem.W.subIn K (.ref C_NoWeb) (.type "BaseException") = some true)
    (xg_NoWeb : PySem.W.findIn K (.ref C_NoWeb) "__getattribute__" = some (some (.builtin "BaseException.__getattribute__")))
    (xk_NoWeb : PySem.W.findIn K (.ref C_NoWeb) "__getattr__" = some none)
    (xd_NoWeb : PySem.W.hasDictIn K C_NoWeb = true)
    (xa_NoWeb : PySem.W.findIn K (.ref C_NoWeb) "__class__" = some (some (.builtin "object.__class__")))
    (xy_NoWeb : PySem.W.typeIn K (.ref C_NoWeb) = some (.type "type"))
    (xm_NoWeb : PySem.W.mroIn K C_NoWeb (.type "object") = some true)
    (kk_NoWeb_NoWeb : PySem.W.kitOne K (.ref C_NoWeb) (.ref C_NoWeb) = some true)
    (kk_NoWeb_NotPlane : PySem.W.kitOne K (.ref C_NoWeb) (.ref C_NotPlane) = some false)
    (kk_NoWeb_Alike : PySem.W.kitOne K (.ref C_NoWeb) (.ref C_Alike) = some false)
    (kk_NoWeb_TooFew : PySem.W.kitOne K (.ref C_NoWeb) (.ref C_TooFew) = some false)
    (kk_NoWeb_NotFree : PySem.W.kitOne K (.ref C_NoWeb) (.ref C_NotFree) = some false)
    (kk_NoWeb_NotFilled : PySem.W.kitOne K (.ref C_NoWeb) (.ref C_NotFilled) = some false)
    (kk_NoWeb_Odd : PySem.W.kitOne K (.ref C_NoWeb) (.ref C_Odd) = some false)
    (kk_NoWeb_Bridge : PySem.W.kitOne K (.ref C_NoWeb) (.ref C_Bridge) = some false)
    (kk_NoWeb_Shared : PySem.W.kitOne K (.ref C_NoWeb) (.ref C_Shared) = some false)
    (kk_NoWeb_TooMany : PySem.W.kitOne K (.ref C_NoWeb) (.ref C_TooMany) = some false)
    (kk_NoWeb_TooSmall : PySem.W.kitOne K (.ref C_NoWeb) (.ref C_TooSmall) = some false)
    (kk_NoWeb_NoText : PySem.W.kitOne K (.ref C_NoWeb) (.ref C_NoText) = some false)
    (kk_NoWeb_NoCorner : PySem.W.kitOne K (.ref C_NoWeb) (.ref C_NoCorner) = some false)
    (kk_NoWeb_NoRing : PySem.W.kitOne K (.ref C_NoWeb) (.ref C_NoRing) = some false)
    (kk_NoWeb_MapError : PySem.W.kitOne K (.ref C_NoWeb) (.ref C_MapError) = some true)
    (kv_NoWeb : PySem.W.kitOne K (.ref C_NoWeb) (.type "ValueError") = some true)
    (xs_NotPlane : PySem.W.subIn K (.ref C_NotPlane) (.type "BaseException") = some true)
    (xg_NotPlane : PySem.W.findIn K (.ref C_NotPlane) "__getattribute__" = some (some (.builtin "BaseException.__getattribute__")))
    (xk_NotPlane : PySem.W.findIn K (.ref C_NotPlane) "__getattr__" = some none)
    (xd_NotPlane : PySem.W.hasDictIn K C_NotPlane = true)
    (xa_NotPlane : PySem.W.findIn K (.ref C_NotPlane) "__class__" = some (some (.builtin "object.__class__")))
    (xy_NotPlane : PySem.W.typeIn K (.ref C_NotPlane) = some (.type "type"))
    (xm_NotPlane : PySem.W.mroIn K C_NotPlane (.type "object") = some true)
    (kk_NotPlane_NoWeb : PySem.W.kitOne K (.ref C_NotPlane) (.ref C_NoWeb) = some false)
    (kk_NotPlane_NotPlane : PySem.W.kitOne K (.ref C_NotPlane) (.ref C_NotPlane) = some true)
    (kk_NotPlane_Alike : PySem.W.kitOne K (.ref C_NotPlane) (.ref C_Alike) = some false)
    (kk_NotPlane_TooFew : PySem.W.kitOne K (.ref C_NotPlane) (.ref C_TooFew) = some false)
    (kk_NotPlane_NotFree : PySem.W.kitOne K (.ref C_NotPlane) (.ref C_NotFree) = some false)
    (kk_NotPlane_NotFilled : PySem.W.kitOne K (.ref C_NotPlane) (.ref C_NotFilled) = some false)
    (kk_NotPlane_Odd : PySem.W.kitOne K (.ref C_NotPlane) (.ref C_Odd) = some false)
    (kk_NotPlane_Bridge : PySem.W.kitOne K (.ref C_NotPlane) (.ref C_Bridge) = some false)
    (kk_NotPlane_Shared : PySem.W.kitOne K (.ref C_NotPlane) (.ref C_Shared) = some false)
    (kk_NotPlane_TooMany : PySem.W.kitOne K (.ref C_NotPlane) (.ref C_TooMany) = some false)
    (kk_NotPlane_TooSmall : PySem.W.kitOne K (.ref C_NotPlane) (.ref C_TooSmall) = some false)
    (kk_NotPlane_NoText : PySem.W.kitOne K (.ref C_NotPlane) (.ref C_NoText) = some false)
    (kk_NotPlane_NoCorner : PySem.W.kitOne K (.ref C_NotPlane) (.ref C_NoCorner) = some false)
    (kk_NotPlane_NoRing : PySem.W.kitOne K (.ref C_NotPlane) (.ref C_NoRing) = some false)
    (kk_NotPlane_MapError : PySem.W.kitOne K (.ref C_NotPlane) (.ref C_MapError) = some true)
    (kv_NotPlane : PySem.W.kitOne K (.ref C_NotPlane) (.type "ValueError") = some true)
    (xs_Alike : PySem.W.subIn K (.ref C_Alike) (.type "BaseException") = some true)
    (xg_Alike : PySem.W.findIn K (.ref C_Alike) "__getattribute__" = some (some (.builtin "BaseException.__getattribute__")))
    (xk_Alike : PySem.W.findIn K (.ref C_Alike) "__getattr__" = some none)
    (xd_Alike : PySem.W.hasDictIn K C_Alike = true)
    (xa_Alike : PySem.W.findIn K (.ref C_Alike) "__class__" = some (some (.builtin "object.__class__")))
    (xy_Alike : PySem.W.typeIn K (.ref C_Alike) = some (.type "type"))
    (xm_Alike : PySem.W.mroIn K C_Alike (.type "object") = some true)
    (kk_Alike_NoWeb : PySem.W.kitOne K (.ref C_Alike) (.ref C_NoWeb) = some false)
    (kk_Alike_NotPlane : PySem.W.kitOne K (.ref C_Alike) (.ref C_NotPlane) = some false)
    (kk_Alike_Alike : PySem.W.kitOne K (.ref C_Alike) (.ref C_Alike) = some true)
    (kk_Alike_TooFew : PySem.W.kitOne K (.ref C_Alike) (.ref C_TooFew) = some false)
    (kk_Alike_NotFree : PySem.W.kitOne K (.ref C_Alike) (.ref C_NotFree) = some false)
    (kk_Alike_NotFilled : PySem.W.kitOne K (.ref C_Alike) (.ref C_NotFilled) = some false)
    (kk_Alike_Odd : PySem.W.kitOne K (.ref C_Alike) (.ref C_Odd) = some false)
    (kk_Alike_Bridge : PySem.W.kitOne K (.ref C_Alike) (.ref C_Bridge) = some false)
    (kk_Alike_Shared : PySem.W.kitOne K (.ref C_Alike) (.ref C_Shared) = some false)
    (kk_Alike_TooMany : PySem.W.kitOne K (.ref C_Alike) (.ref C_TooMany) = some false)
    (kk_Alike_TooSmall : PySem.W.kitOne K (.ref C_Alike) (.ref C_TooSmall) = some false)
    (kk_Alike_NoText : PySem.W.kitOne K (.ref C_Alike) (.ref C_NoText) = some false)
    (kk_Alike_NoCorner : PySem.W.kitOne K (.ref C_Alike) (.ref C_NoCorner) = some false)
    (kk_Alike_NoRing : PySem.W.kitOne K (.ref C_Alike) (.ref C_NoRing) = some false)
    (kk_Alike_MapError : PySem.W.kitOne K (.ref C_Alike) (.ref C_MapError) = some true)
    (kv_Alike : PySem.W.kitOne K (.ref C_Alike) (.type "ValueError") = some true)
    (xs_TooFew : PySem.W.subIn K (.ref C_TooFew) (.type "BaseException") = some true)
    (xg_TooFew : PySem.W.findIn K (.ref C_TooFew) "__getattribute__" = some (some (.builtin "BaseException.__getattribute__")))
    (xk_TooFew : PySem.W.findIn K (.ref C_TooFew) "__getattr__" = some none)
    (xd_TooFew : PySem.W.hasDictIn K C_TooFew = true)
    (xa_TooFew : PySem.W.findIn K (.ref C_TooFew) "__class__" = some (some (.builtin "object.__class__")))
    (xy_TooFew : PySem.W.typeIn K (.ref C_TooFew) = some (.type "type"))
    (xm_TooFew : PySem.W.mroIn K C_TooFew (.type "object") = some true)
    (kk_TooFew_NoWeb : PySem.W.kitOne K (.ref C_TooFew) (.ref C_NoWeb) = some false)
    (kk_TooFew_NotPlane : PySem.W.kitOne K (.ref C_TooFew) (.ref C_NotPlane) = some false)
    (kk_TooFew_Alike : PySem.W.kitOne K (.ref C_TooFew) (.ref C_Alike) = some false)
    (kk_TooFew_TooFew : PySem.W.kitOne K (.ref C_TooFew) (.ref C_TooFew) = some true)
    (kk_TooFew_NotFree : PySem.W.kitOne K (.ref C_TooFew) (.ref C_NotFree) = some false)
    (kk_TooFew_NotFilled : PySem.W.kitOne K (.ref C_TooFew) (.ref C_NotFilled) = some false)
    (kk_TooFew_Odd : PySem.W.kitOne K (.ref C_TooFew) (.ref C_Odd) = some false)
    (kk_TooFew_Bridge : PySem.W.kitOne K (.ref C_TooFew) (.ref C_Bridge) = some false)
    (kk_TooFew_Shared : PySem.W.kitOne K (.ref C_TooFew) (.ref C_Shared) = some false)
    (kk_TooFew_TooMany : PySem.W.kitOne K (.ref C_TooFew) (.ref C_TooMany) = some false)
    (kk_TooFew_TooSmall : PySem.W.kitOne K (.ref C_TooFew) (.ref C_TooSmall) = some false)
    (kk_TooFew_NoText : PySem.W.kitOne K (.ref C_TooFew) (.ref C_NoText) = some false)
    (kk_TooFew_NoCorner : PySem.W.kitOne K (.ref C_TooFew) (.ref C_NoCorner) = some false)
    (kk_TooFew_NoRing : PySem.W.kitOne K (.ref C_TooFew) (.ref C_NoRing) = some false)
    (kk_TooFew_MapError : PySem.W.kitOne K (.ref C_TooFew) (.ref C_MapError) = some true)
    (kv_TooFew : PySem.W.kitOne K (.ref C_TooFew) (.type "ValueError") = some true)
    (xs_NotFree : PySem.W.subIn K (.ref C_NotFree) (.type "BaseException") = some true)
    (xg_NotFree : PySem.W.findIn K (.ref C_NotFree) "__getattribute__" = some (some (.builtin "BaseException.__getattribute__")))
    (xk_NotFree : PySem.W.findIn K (.ref C_NotFree) "__getattr__" = some none)
    (xd_NotFree : PySem.W.hasDictIn K C_NotFree = true)
    (xa_NotFree : PySem.W.findIn K (.ref C_NotFree) "__class__" = some (some (.builtin "object.__class__")))
    (xy_NotFree : PySem.W.typeIn K (.ref C_NotFree) = some (.type "type"))
    (xm_NotFree : PySem.W.mroIn K C_NotFree (.type "object") = some true)
    (kk_NotFree_NoWeb : PySem.W.kitOne K (.ref C_NotFree) (.ref C_NoWeb) = some false)
    (kk_NotFree_NotPlane : PySem.W.kitOne K (.ref C_NotFree) (.ref C_NotPlane) = some false)
    (kk_NotFree_Alike : PySem.W.kitOne K (.ref C_NotFree) (.ref C_Alike) = some false)
    (kk_NotFree_TooFew : PySem.W.kitOne K (.ref C_NotFree) (.ref C_TooFew) = some false)
    (kk_NotFree_NotFree : PySem.W.kitOne K (.ref C_NotFree) (.ref C_NotFree) = some true)
    (kk_NotFree_NotFilled : PySem.W.kitOne K (.ref C_NotFree) (.ref C_NotFilled) = some false)
    (kk_NotFree_Odd : PySem.W.kitOne K (.ref C_NotFree) (.ref C_Odd) = some false)
    (kk_NotFree_Bridge : PySem.W.kitOne K (.ref C_NotFree) (.ref C_Bridge) = some false)
    (kk_NotFree_Shared : PySem.W.kitOne K (.ref C_NotFree) (.ref C_Shared) = some false)
    (kk_NotFree_TooMany : PySem.W.kitOne K (.ref C_NotFree) (.ref C_TooMany) = some false)
    (kk_NotFree_TooSmall : PySem.W.kitOne K (.ref C_NotFree) (.ref C_TooSmall) = some false)
    (kk_NotFree_NoText : PySem.W.kitOne K (.ref C_NotFree) (.ref C_NoText) = some false)
    (kk_NotFree_NoCorner : PySem.W.kitOne K (.ref C_NotFree) (.ref C_NoCorner) = some false)
    (kk_NotFree_NoRing : PySem.W.kitOne K (.ref C_NotFree) (.ref C_NoRing) = some false)
    (kk_NotFree_MapError : PySem.W.kitOne K (.ref C_NotFree) (.ref C_MapError) = some true)
    (kv_NotFree : PySem.W.kitOne K (.ref C_NotFree) (.type "ValueError") = some true)
    (xs_NotFilled : PySem.W.subIn K (.ref C_NotFilled) (.type "BaseException") = some true)
    (xg_NotFilled : PySem.W.findIn K (.ref C_NotFilled) "__getattribute__" = some (some (.builtin "BaseException.__getattribute__")))
    (xk_NotFilled : PySem.W.findIn K (.ref C_NotFilled) "__getattr__" = some none)
    (xd_NotFilled : PySem.W.hasDictIn K C_NotFilled = true)
    (xa_NotFilled : PySem.W.findIn K (.ref C_NotFilled) "__class__" = some (some (.builtin "object.__class__")))
    (xy_NotFilled : PySem.W.typeIn K (.ref C_NotFilled) = some (.type "type"))
    (xm_NotFilled : PySem.W.mroIn K C_NotFilled (.type "object") = some true)
    (kk_NotFilled_NoWeb : PySem.W.kitOne K (.ref C_NotFilled) (.ref C_NoWeb) = some false)
    (kk_NotFilled_NotPlane : PySem.W.kitOne K (.ref C_NotFilled) (.ref C_NotPlane) = some false)
    (kk_NotFilled_Alike : PySem.W.kitOne K (.ref C_NotFilled) (.ref C_Alike) = some false)
    (kk_NotFilled_TooFew : PySem.W.kitOne K (.ref C_NotFilled) (.ref C_TooFew) = some false)
    (kk_NotFilled_NotFree : PySem.W.kitOne K (.ref C_NotFilled) (.ref C_NotFree) = some false)
    (kk_NotFilled_NotFilled : PySem.W.kitOne K (.ref C_NotFilled) (.ref C_NotFilled) = some true)
    (kk_NotFilled_Odd : PySem.W.kitOne K (.ref C_NotFilled) (.ref C_Odd) = some false)
    (kk_NotFilled_Bridge : PySem.W.kitOne K (.ref C_NotFilled) (.ref C_Bridge) = some false)
    (kk_NotFilled_Shared : PySem.W.kitOne K (.ref C_NotFilled) (.ref C_Shared) = some false)
    (kk_NotFilled_TooMany : PySem.W.kitOne K (.ref C_NotFilled) (.ref C_TooMany) = some false)
    (kk_NotFilled_TooSmall : PySem.W.kitOne K (.ref C_NotFilled) (.ref C_TooSmall) = some false)
    (kk_NotFilled_NoText : PySem.W.kitOne K (.ref C_NotFilled) (.ref C_NoText) = some false)
    (kk_NotFilled_NoCorner : PySem.W.kitOne K (.ref C_NotFilled) (.ref C_NoCorner) = some false)
    (kk_NotFilled_NoRing : PySem.W.kitOne K (.ref C_NotFilled) (.ref C_NoRing) = some false)
    (kk_NotFilled_MapError : PySem.W.kitOne K (.ref C_NotFilled) (.ref C_MapError) = some true)
    (kv_NotFilled : PySem.W.kitOne K (.ref C_NotFilled) (.type "ValueError") = some true)
    (xs_Odd : PySem.W.subIn K (.ref C_Odd) (.type "BaseException") = some true)
    (xg_Odd : PySem.W.findIn K (.ref C_Odd) "__getattribute__" = some (some (.builtin "BaseException.__getattribute__")))
    (xk_Odd : PySem.W.findIn K (.ref C_Odd) "__getattr__" = some none)
    (xd_Odd : PySem.W.hasDictIn K C_Odd = true)
    (xa_Odd : PySem.W.findIn K (.ref C_Odd) "__class__" = some (some (.builtin "object.__class__")))
    (xy_Odd : PySem.W.typeIn K (.ref C_Odd) = some (.type "type"))
    (xm_Odd : PySem.W.mroIn K C_Odd (.type "object") = some true)
    (kk_Odd_NoWeb : PySem.W.kitOne K (.ref C_Odd) (.ref C_NoWeb) = some false)
    (kk_Odd_NotPlane : PySem.W.kitOne K (.ref C_Odd) (.ref C_NotPlane) = some false)
    (kk_Odd_Alike : PySem.W.kitOne K (.ref C_Odd) (.ref C_Alike) = some false)
    (kk_Odd_TooFew : PySem.W.kitOne K (.ref C_Odd) (.ref C_TooFew) = some false)
    (kk_Odd_NotFree : PySem.W.kitOne K (.ref C_Odd) (.ref C_NotFree) = some false)
    (kk_Odd_NotFilled : PySem.W.kitOne K (.ref C_Odd) (.ref C_NotFilled) = some false)
    (kk_Odd_Odd : PySem.W.kitOne K (.ref C_Odd) (.ref C_Odd) = some true)
    (kk_Odd_Bridge : PySem.W.kitOne K (.ref C_Odd) (.ref C_Bridge) = some false)
    (kk_Odd_Shared : PySem.W.kitOne K (.ref C_Odd) (.ref C_Shared) = some false)
    (kk_Odd_TooMany : PySem.W.kitOne K (.ref C_Odd) (.ref C_TooMany) = some false)
    (kk_Odd_TooSmall : PySem.W.kitOne K (.ref C_Odd) (.ref C_TooSmall) = some false)
    (kk_Odd_NoText : PySem.W.kitOne K (.ref C_Odd) (.ref C_NoText) = some false)
    (kk_Odd_NoCorner : PySem.W.kitOne K (.ref C_Odd) (.ref C_NoCorner) = some false)
    (kk_Odd_NoRing : PySem.W.kitOne K (.ref C_Odd) (.ref C_NoRing) = some false)
    (kk_Odd_MapError : PySem.W.kitOne K (.ref C_Odd) (.ref C_MapError) = some true)
    (kv_Odd : PySem.W.kitOne K (.ref C_Odd) (.type "ValueError") = some true)
    (xs_Bridge : PySem.W.subIn K (.ref C_Bridge) (.type "BaseException") = some true)
    (xg_Bridge : PySem.W.findIn K (.ref C_Bridge) "__getattribute__" = some (some (.builtin "BaseException.__getattribute__")))
    (xk_Bridge : PySem.W.findIn K (.ref C_Bridge) "__getattr__" = some none)
    (xd_Bridge : PySem.W.hasDictIn K C_Bridge = true)
    (xa_Bridge : PySem.W.findIn K (.ref C_Bridge) "__class__" = some (some (.builtin "object.__class__")))
    (xy_Bridge : PySem.W.typeIn K (.ref C_Bridge) = some (.type "type"))
    (xm_Bridge : PySem.W.mroIn K C_Bridge (.type "object") = some true)
    (kk_Bridge_NoWeb : PySem.W.kitOne K (.ref C_Bridge) (.ref C_NoWeb) = some false)
    (kk_Bridge_NotPlane : PySem.W.kitOne K (.ref C_Bridge) (.ref C_NotPlane) = some false)
    (kk_Bridge_Alike : PySem.W.kitOne K (.ref C_Bridge) (.ref C_Alike) = some false)
    (kk_Bridge_TooFew : PySem.W.kitOne K (.ref C_Bridge) (.ref C_TooFew) = some false)
    (kk_Bridge_NotFree : PySem.W.kitOne K (.ref C_Bridge) (.ref C_NotFree) = some false)
    (kk_Bridge_NotFilled : PySem.W.kitOne K (.ref C_Bridge) (.ref C_NotFilled) = some false)
    (kk_Bridge_Odd : PySem.W.kitOne K (.ref C_Bridge) (.ref C_Odd) = some false)
    (kk_Bridge_Bridge : PySem.W.kitOne K (.ref C_Bridge) (.ref C_Bridge) = some true)
    (kk_Bridge_Shared : PySem.W.kitOne K (.ref C_Bridge) (.ref C_Shared) = some false)
    (kk_Bridge_TooMany : PySem.W.kitOne K (.ref C_Bridge) (.ref C_TooMany) = some false)
    (kk_Bridge_TooSmall : PySem.W.kitOne K (.ref C_Bridge) (.ref C_TooSmall) = some false)
    (kk_Bridge_NoText : PySem.W.kitOne K (.ref C_Bridge) (.ref C_NoText) = some false)
    (kk_Bridge_NoCorner : PySem.W.kitOne K (.ref C_Bridge) (.ref C_NoCorner) = some false)
    (kk_Bridge_NoRing : PySem.W.kitOne K (.ref C_Bridge) (.ref C_NoRing) = some false)
    (kk_Bridge_MapError : PySem.W.kitOne K (.ref C_Bridge) (.ref C_MapError) = some true)
    (kv_Bridge : PySem.W.kitOne K (.ref C_Bridge) (.type "ValueError") = some true)
    (xs_Shared : PySem.W.subIn K (.ref C_Shared) (.type "BaseException") = some true)
    (xg_Shared : PySem.W.findIn K (.ref C_Shared) "__getattribute__" = some (some (.builtin "BaseException.__getattribute__")))
    (xk_Shared : PySem.W.findIn K (.ref C_Shared) "__getattr__" = some none)
    (xd_Shared : PySem.W.hasDictIn K C_Shared = true)
    (xa_Shared : PySem.W.findIn K (.ref C_Shared) "__class__" = some (some (.builtin "object.__class__")))
    (xy_Shared : PySem.W.typeIn K (.ref C_Shared) = some (.type "type"))
    (xm_Shared : PySem.W.mroIn K C_Shared (.type "object") = some true)
    (kk_Shared_NoWeb : PySem.W.kitOne K (.ref C_Shared) (.ref C_NoWeb) = some false)
    (kk_Shared_NotPlane : PySem.W.kitOne K (.ref C_Shared) (.ref C_NotPlane) = some false)
    (kk_Shared_Alike : PySem.W.kitOne K (.ref C_Shared) (.ref C_Alike) = some false)
    (kk_Shared_TooFew : PySem.W.kitOne K (.ref C_Shared) (.ref C_TooFew) = some false)
    (kk_Shared_NotFree : PySem.W.kitOne K (.ref C_Shared) (.ref C_NotFree) = some false)
    (kk_Shared_NotFilled : PySem.W.kitOne K (.ref C_Shared) (.ref C_NotFilled) = some false)
    (kk_Shared_Odd : PySem.W.kitOne K (.ref C_Shared) (.ref C_Odd) = some false)
    (kk_Shared_Bridge : PySem.W.kitOne K (.ref C_Shared) (.ref C_Bridge) = some false)
    (kk_Shared_Shared : PySem.W.kitOne K (.ref C_Shared) (.ref C_Shared) = some true)
    (kk_Shared_TooMany : PySem.W.kitOne K (.ref C_Shared) (.ref C_TooMany) = some false)
    (kk_Shared_TooSmall : PySem.W.kitOne K (.ref C_Shared) (.ref C_TooSmall) = some false)
    (kk_Shared_NoText : PySem.W.kitOne K (.ref C_Shared) (.ref C_NoText) = some false)
    (kk_Shared_NoCorner : PySem.W.kitOne K (.ref C_Shared) (.ref C_NoCorner) = some false)
    (kk_Shared_NoRing : PySem.W.kitOne K (.ref C_Shared) (.ref C_NoRing) = some false)
    (kk_Shared_MapError : PySem.W.kitOne K (.ref C_Shared) (.ref C_MapError) = some true)
    (kv_Shared : PySem.W.kitOne K (.ref C_Shared) (.type "ValueError") = some true)
    (xs_TooMany : PySem.W.subIn K (.ref C_TooMany) (.type "BaseException") = some true)
    (xg_TooMany : PySem.W.findIn K (.ref C_TooMany) "__getattribute__" = some (some (.builtin "BaseException.__getattribute__")))
    (xk_TooMany : PySem.W.findIn K (.ref C_TooMany) "__getattr__" = some none)
    (xd_TooMany : PySem.W.hasDictIn K C_TooMany = true)
    (xa_TooMany : PySem.W.findIn K (.ref C_TooMany) "__class__" = some (some (.builtin "object.__class__")))
    (xy_TooMany : PySem.W.typeIn K (.ref C_TooMany) = some (.type "type"))
    (xm_TooMany : PySem.W.mroIn K C_TooMany (.type "object") = some true)
    (kk_TooMany_NoWeb : PySem.W.kitOne K (.ref C_TooMany) (.ref C_NoWeb) = some false)
    (kk_TooMany_NotPlane : PySem.W.kitOne K (.ref C_TooMany) (.ref C_NotPlane) = some false)
    (kk_TooMany_Alike : PySem.W.kitOne K (.ref C_TooMany) (.ref C_Alike) = some false)
    (kk_TooMany_TooFew : PySem.W.kitOne K (.ref C_TooMany) (.ref C_TooFew) = some false)
    (kk_TooMany_NotFree : PySem.W.kitOne K (.ref C_TooMany) (.ref C_NotFree) = some false)
    (kk_TooMany_NotFilled : PySem.W.kitOne K (.ref C_TooMany) (.ref C_NotFilled) = some false)
    (kk_TooMany_Odd : PySem.W.kitOne K (.ref C_TooMany) (.ref C_Odd) = some false)
    (kk_TooMany_Bridge : PySem.W.kitOne K (.ref C_TooMany) (.ref C_Bridge) = some false)
    (kk_TooMany_Shared : PySem.W.kitOne K (.ref C_TooMany) (.ref C_Shared) = some false)
    (kk_TooMany_TooMany : PySem.W.kitOne K (.ref C_TooMany) (.ref C_TooMany) = some true)
    (kk_TooMany_TooSmall : PySem.W.kitOne K (.ref C_TooMany) (.ref C_TooSmall) = some false)
    (kk_TooMany_NoText : PySem.W.kitOne K (.ref C_TooMany) (.ref C_NoText) = some false)
    (kk_TooMany_NoCorner : PySem.W.kitOne K (.ref C_TooMany) (.ref C_NoCorner) = some false)
    (kk_TooMany_NoRing : PySem.W.kitOne K (.ref C_TooMany) (.ref C_NoRing) = some false)
    (kk_TooMany_MapError : PySem.W.kitOne K (.ref C_TooMany) (.ref C_MapError) = some true)
    (kv_TooMany : PySem.W.kitOne K (.ref C_TooMany) (.type "ValueError") = some true)
    (xx_TooMany : PySem.W.excIn K C_TooMany [.type "ValueError", .type "Exception", .type "BaseException", .type "object"] "ValueError.__new__" = true)
    (xc_TooMany : PySem.W.keepIn K (.ref C_TooMany) = true)
    (xs_TooSmall : PySem.W.subIn K (.ref C_TooSmall) (.type "BaseException") = some true)
    (xg_TooSmall : PySem.W.findIn K (.ref C_TooSmall) "__getattribute__" = some (some (.builtin "BaseException.__getattribute__")))
    (xk_TooSmall : PySem.W.findIn K (.ref C_TooSmall) "__getattr__" = some none)
    (xd_TooSmall : PySem.W.hasDictIn K C_TooSmall = true)
    (xa_TooSmall : PySem.W.findIn K (.ref C_TooSmall) "__class__" = some (some (.builtin "object.__class__")))
    (xy_TooSmall : PySem.W.typeIn K (.ref C_TooSmall) = some (.type "type"))
    (xm_TooSmall : PySem.W.mroIn K C_TooSmall (.type "object") = some true)
    (kk_TooSmall_NoWeb : PySem.W.kitOne K (.ref C_TooSmall) (.ref C_NoWeb) = some false)
    (kk_TooSmall_NotPlane : PySem.W.kitOne K (.ref C_TooSmall) (.ref C_NotPlane) = some false)
    (kk_TooSmall_Alike : PySem.W.kitOne K (.ref C_TooSmall) (.ref C_Alike) = some false)
    (kk_TooSmall_TooFew : PySem.W.kitOne K (.ref C_TooSmall) (.ref C_TooFew) = some false)
    (kk_TooSmall_NotFree : PySem.W.kitOne K (.ref C_TooSmall) (.ref C_NotFree) = some false)
    (kk_TooSmall_NotFilled : PySem.W.kitOne K (.ref C_TooSmall) (.ref C_NotFilled) = some false)
    (kk_TooSmall_Odd : PySem.W.kitOne K (.ref C_TooSmall) (.ref C_Odd) = some false)
    (kk_TooSmall_Bridge : PySem.W.kitOne K (.ref C_TooSmall) (.ref C_Bridge) = some false)
    (kk_TooSmall_Shared : PySem.W.kitOne K (.ref C_TooSmall) (.ref C_Shared) = some false)
    (kk_TooSmall_TooMany : PySem.W.kitOne K (.ref C_TooSmall) (.ref C_TooMany) = some false)
    (kk_TooSmall_TooSmall : PySem.W.kitOne K (.ref C_TooSmall) (.ref C_TooSmall) = some true)
    (kk_TooSmall_NoText : PySem.W.kitOne K (.ref C_TooSmall) (.ref C_NoText) = some false)
    (kk_TooSmall_NoCorner : PySem.W.kitOne K (.ref C_TooSmall) (.ref C_NoCorner) = some false)
    (kk_TooSmall_NoRing : PySem.W.kitOne K (.ref C_TooSmall) (.ref C_NoRing) = some false)
    (kk_TooSmall_MapError : PySem.W.kitOne K (.ref C_TooSmall) (.ref C_MapError) = some true)
    (kv_TooSmall : PySem.W.kitOne K (.ref C_TooSmall) (.type "ValueError") = some true)
    (xx_TooSmall : PySem.W.excIn K C_TooSmall [.type "ValueError", .type "Exception", .type "BaseException", .type "object"] "ValueError.__new__" = true)
    (xc_TooSmall : PySem.W.keepIn K (.ref C_TooSmall) = true)
    (xs_NoText : PySem.W.subIn K (.ref C_NoText) (.type "BaseException") = some true)
    (xg_NoText : PySem.W.findIn K (.ref C_NoText) "__getattribute__" = some (some (.builtin "BaseException.__getattribute__")))
    (xk_NoText : PySem.W.findIn K (.ref C_NoText) "__getattr__" = some none)
    (xd_NoText : PySem.W.hasDictIn K C_NoText = true)
    (xa_NoText : PySem.W.findIn K (.ref C_NoText) "__class__" = some (some (.builtin "object.__class__")))
    (xy_NoText : PySem.W.typeIn K (.ref C_NoText) = some (.type "type"))
    (xm_NoText : PySem.W.mroIn K C_NoText (.type "object") = some true)
    (kk_NoText_NoWeb : PySem.W.kitOne K (.ref C_NoText) (.ref C_NoWeb) = some false)
    (kk_NoText_NotPlane : PySem.W.kitOne K (.ref C_NoText) (.ref C_NotPlane) = some false)
    (kk_NoText_Alike : PySem.W.kitOne K (.ref C_NoText) (.ref C_Alike) = some false)
    (kk_NoText_TooFew : PySem.W.kitOne K (.ref C_NoText) (.ref C_TooFew) = some false)
    (kk_NoText_NotFree : PySem.W.kitOne K (.ref C_NoText) (.ref C_NotFree) = some false)
    (kk_NoText_NotFilled : PySem.W.kitOne K (.ref C_NoText) (.ref C_NotFilled) = some false)
    (kk_NoText_Odd : PySem.W.kitOne K (.ref C_NoText) (.ref C_Odd) = some false)
    (kk_NoText_Bridge : PySem.W.kitOne K (.ref C_NoText) (.ref C_Bridge) = some false)
    (kk_NoText_Shared : PySem.W.kitOne K (.ref C_NoText) (.ref C_Shared) = some false)
    (kk_NoText_TooMany : PySem.W.kitOne K (.ref C_NoText) (.ref C_TooMany) = some false)
    (kk_NoText_TooSmall : PySem.W.kitOne K (.ref C_NoText) (.ref C_TooSmall) = some false)
    (kk_NoText_NoText : PySem.W.kitOne K (.ref C_NoText) (.ref C_NoText) = some true)
    (kk_NoText_NoCorner : PySem.W.kitOne K (.ref C_NoText) (.ref C_NoCorner) = some false)
    (kk_NoText_NoRing : PySem.W.kitOne K (.ref C_NoText) (.ref C_NoRing) = some false)
    (kk_NoText_MapError : PySem.W.kitOne K (.ref C_NoText) (.ref C_MapError) = some true)
    (kv_NoText : PySem.W.kitOne K (.ref C_NoText) (.type "ValueError") = some true)
    (xx_NoText : PySem.W.excIn K C_NoText [.type "ValueError", .type "Exception", .type "BaseException", .type "object"] "ValueError.__new__" = true)
    (xc_NoText : PySem.W.keepIn K (.ref C_NoText) = true)
    (xs_NoCorner : PySem.W.subIn K (.ref C_NoCorner) (.type "BaseException") = some true)
    (xg_NoCorner : PySem.W.findIn K (.ref C_NoCorner) "__getattribute__" = some (some (.builtin "BaseException.__getattribute__")))
    (xk_NoCorner : PySem.W.findIn K (.ref C_NoCorner) "__getattr__" = some none)
    (xd_NoCorner : PySem.W.hasDictIn K C_NoCorner = true)
    (xa_NoCorner : PySem.W.findIn K (.ref C_NoCorner) "__class__" = some (some (.builtin "object.__class__")))
    (xy_NoCorner : PySem.W.typeIn K (.ref C_NoCorner) = some (.type "type"))
    (xm_NoCorner : PySem.W.mroIn K C_NoCorner (.type "object") = some true)
    (kk_NoCorner_NoWeb : PySem.W.kitOne K (.ref C_NoCorner) (.ref C_NoWeb) = some false)
    (kk_NoCorner_NotPlane : PySem.W.kitOne K (.ref C_NoCorner) (.ref C_NotPlane) = some false)
    (kk_NoCorner_Alike : PySem.W.kitOne K (.ref C_NoCorner) (.ref C_Alike) = some false)
    (kk_NoCorner_TooFew : PySem.W.kitOne K (.ref C_NoCorner) (.ref C_TooFew) = some false)
    (kk_NoCorner_NotFree : PySem.W.kitOne K (.ref C_NoCorner) (.ref C_NotFree) = some false)
    (kk_NoCorner_NotFilled : PySem.W.kitOne K (.ref C_NoCorner) (.ref C_NotFilled) = some false)
    (kk_NoCorner_Odd : PySem.W.kitOne K (.ref C_NoCorner) (.ref C_Odd) = some false)
    (kk_NoCorner_Bridge : PySem.W.kitOne K (.ref C_NoCorner) (.ref C_Bridge) = some false)
    (kk_NoCorner_Shared : PySem.W.kitOne K (.ref C_NoCorner) (.ref C_Shared) = some false)
    (kk_NoCorner_TooMany : PySem.W.kitOne K (.ref C_NoCorner) (.ref C_TooMany) = some false)
    (kk_NoCorner_TooSmall : PySem.W.kitOne K (.ref C_NoCorner) (.ref C_TooSmall) = some false)
    (kk_NoCorner_NoText : PySem.W.kitOne K (.ref C_NoCorner) (.ref C_NoText) = some false)
    (kk_NoCorner_NoCorner : PySem.W.kitOne K (.ref C_NoCorner) (.ref C_NoCorner) = some true)
    (kk_NoCorner_NoRing : PySem.W.kitOne K (.ref C_NoCorner) (.ref C_NoRing) = some false)
    (kk_NoCorner_MapError : PySem.W.kitOne K (.ref C_NoCorner) (.ref C_MapError) = some true)
    (kv_NoCorner : PySem.W.kitOne K (.ref C_NoCorner) (.type "ValueError") = some true)
    (xx_NoCorner : PySem.W.excIn K C_NoCorner [.type "ValueError", .type "Exception", .type "BaseException", .type "object"] "ValueError.__new__" = true)
    (xc_NoCorner : PySem.W.keepIn K (.ref C_NoCorner) = true)
    (xs_NoRing : PySem.W.subIn K (.ref C_NoRing) (.type "BaseException") = some true)
    (xg_NoRing : PySem.W.findIn K (.ref C_NoRing) "__getattribute__" = some (some (.builtin "BaseException.__getattribute__")))
    (xk_NoRing : PySem.W.findIn K (.ref C_NoRing) "__getattr__" = some none)
    (xd_NoRing : PySem.W.hasDictIn K C_NoRing = true)
    (xa_NoRing : PySem.W.findIn K (.ref C_NoRing) "__class__" = some (some (.builtin "object.__class__")))
    (xy_NoRing : PySem.W.typeIn K (.ref C_NoRing) = some (.type "type"))
    (xm_NoRing : PySem.W.mroIn K C_NoRing (.type "object") = some true)
    (kk_NoRing_NoWeb : PySem.W.kitOne K (.ref C_NoRing) (.ref C_NoWeb) = some false)
    (kk_NoRing_NotPlane : PySem.W.kitOne K (.ref C_NoRing) (.ref C_NotPlane) = some false)
    (kk_NoRing_Alike : PySem.W.kitOne K (.ref C_NoRing) (.ref C_Alike) = some false)
    (kk_NoRing_TooFew : PySem.W.kitOne K (.ref C_NoRing) (.ref C_TooFew) = some false)
    (kk_NoRing_NotFree : PySem.W.kitOne K (.ref C_NoRing) (.ref C_NotFree) = some false)
    (kk_NoRing_NotFilled : PySem.W.kitOne K (.ref C_NoRing) (.ref C_NotFilled) = some false)
    (kk_NoRing_Odd : PySem.W.kitOne K (.ref C_NoRing) (.ref C_Odd) = some false)
    (kk_NoRing_Bridge : PySem.W.kitOne K (.ref C_NoRing) (.ref C_Bridge) = some false)
    (kk_NoRing_Shared : PySem.W.kitOne K (.ref C_NoRing) (.ref C_Shared) = some false)
    (kk_NoRing_TooMany : PySem.W.kitOne K (.ref C_NoRing) (.ref C_TooMany) = some false)
    (kk_NoRing_TooSmall : PySem.W.kitOne K (.ref C_NoRing) (.ref C_TooSmall) = some false)
    (kk_NoRing_NoText : PySem.W.kitOne K (.ref C_NoRing) (.ref C_NoText) = some false)
    (kk_NoRing_NoCorner : PySem.W.kitOne K (.ref C_NoRing) (.ref C_NoCorner) = some false)
    (kk_NoRing_NoRing : PySem.W.kitOne K (.ref C_NoRing) (.ref C_NoRing) = some true)
    (kk_NoRing_MapError : PySem.W.kitOne K (.ref C_NoRing) (.ref C_MapError) = some true)
    (kv_NoRing : PySem.W.kitOne K (.ref C_NoRing) (.type "ValueError") = some true)
    (xx_NoRing : PySem.W.excIn K C_NoRing [.type "ValueError", .type "Exception", .type "BaseException", .type "object"] "ValueError.__new__" = true)
    (xc_NoRing : PySem.W.keepIn K (.ref C_NoRing) = true)
    (ox_NoWeb : K.lookup C_NoWeb = some (excClassObj nm_NoWeb qn_NoWeb C_NoWeb N_NoWeb_ bs_NoWeb bm_NoWeb true sn_NoWeb sb_NoWeb ab_NoWeb co_NoWeb dd_NoWeb k0_NoWeb k1_NoWeb k2_NoWeb k3_NoWeb k5_NoWeb "ValueError.__new__"))
    (or_NoWeb : PySem.HandSPX.refsVE bm_NoWeb = true)
    (os_NoWeb : PySem.W.findIn K (.ref C_NoWeb) "__setattr__" = some (some (.builtin "object.__setattr__")))
    (xc_NoWeb : PySem.W.keepIn K (.ref C_NoWeb) = true)
    (ot_NoWeb : PySem.W.typeIn K (.ref f_NoWeb___init__) = some (.type "function"))
    (of_NoWeb_fault : PySem.W.findIn K (.ref C_NoWeb) "fault" = some none)
    (ox_NotPlane : K.lookup C_NotPlane = some (excClassObj nm_NotPlane qn_NotPlane C_NotPlane N_NotPlane_ bs_NotPlane bm_NotPlane true sn_NotPlane sb_NotPlane ab_NotPlane co_NotPlane dd_NotPlane k0_NotPlane k1_NotPlane k2_NotPlane k3_NotPlane k5_NotPlane "ValueError.__new__"))
    (or_NotPlane : PySem.HandSPX.refsVE bm_NotPlane = true)
    (os_NotPlane : PySem.W.findIn K (.ref C_NotPlane) "__setattr__" = some (some (.builtin "object.__setattr__")))
    (xc_NotPlane : PySem.W.keepIn K (.ref C_NotPlane) = true)
    (ot_NotPlane : PySem.W.typeIn K (.ref f_NotPlane___init__) = some (.type "function"))
    (of_NotPlane_counted : PySem.W.findIn K (.ref C_NotPlane) "counted" = some none)
    (ox_Alike : K.lookup C_Alike = some (excClassObj nm_Alike qn_Alike C_Alike N_Alike_ bs_Alike bm_Alike true sn_Alike sb_Alike ab_Alike co_Alike dd_Alike k0_Alike k1_Alike k2_Alike k3_Alike k5_Alike "ValueError.__new__"))
    (or_Alike : PySem.HandSPX.refsVE bm_Alike = true)
    (os_Alike : PySem.W.findIn K (.ref C_Alike) "__setattr__" = some (some (.builtin "object.__setattr__")))
    (xc_Alike : PySem.W.keepIn K (.ref C_Alike) = true)
    (ot_Alike : PySem.W.typeIn K (.ref f_Alike___init__) = some (.type "function"))
    (of_Alike_one : PySem.W.findIn K (.ref C_Alike) "one" = some none)
    (of_Alike_other : PySem.W.findIn K (.ref C_Alike) "other" = some none)
    (ox_TooFew : K.lookup C_TooFew = some (excClassObj nm_TooFew qn_TooFew C_TooFew N_TooFew_ bs_TooFew bm_TooFew true sn_TooFew sb_TooFew ab_TooFew co_TooFew dd_TooFew k0_TooFew k1_TooFew k2_TooFew k3_TooFew k5_TooFew "ValueError.__new__"))
    (or_TooFew : PySem.HandSPX.refsVE bm_TooFew = true)
    (os_TooFew : PySem.W.findIn K (.ref C_TooFew) "__setattr__" = some (some (.builtin "object.__setattr__")))
    (xc_TooFew : PySem.W.keepIn K (.ref C_TooFew) = true)
    (ot_TooFew : PySem.W.typeIn K (.ref f_TooFew___init__) = some (.type "function"))
    (of_TooFew_point : PySem.W.findIn K (.ref C_TooFew) "point" = some none)
    (ox_NotFree : K.lookup C_NotFree = some (excClassObj nm_NotFree qn_NotFree C_NotFree N_NotFree_ bs_NotFree bm_NotFree true sn_NotFree sb_NotFree ab_NotFree co_NotFree dd_NotFree k0_NotFree k1_NotFree k2_NotFree k3_NotFree k5_NotFree "ValueError.__new__"))
    (or_NotFree : PySem.HandSPX.refsVE bm_NotFree = true)
    (os_NotFree : PySem.W.findIn K (.ref C_NotFree) "__setattr__" = some (some (.builtin "object.__setattr__")))
    (xc_NotFree : PySem.W.keepIn K (.ref C_NotFree) = true)
    (ot_NotFree : PySem.W.typeIn K (.ref f_NotFree___init__) = some (.type "function"))
    (of_NotFree_point : PySem.W.findIn K (.ref C_NotFree) "point" = some none)
    (ox_NotFilled : K.lookup C_NotFilled = some (excClassObj nm_NotFilled qn_NotFilled C_NotFilled N_NotFilled_ bs_NotFilled bm_NotFilled true sn_NotFilled sb_NotFilled ab_NotFilled co_NotFilled dd_NotFilled k0_NotFilled k1_NotFilled k2_NotFilled k3_NotFilled k5_NotFilled "ValueError.__new__"))
    (or_NotFilled : PySem.HandSPX.refsVE bm_NotFilled = true)
    (os_NotFilled : PySem.W.findIn K (.ref C_NotFilled) "__setattr__" = some (some (.builtin "object.__setattr__")))
    (xc_NotFilled : PySem.W.keepIn K (.ref C_NotFilled) = true)
    (ot_NotFilled : PySem.W.typeIn K (.ref f_NotFilled___init__) = some (.type "function"))
    (of_NotFilled_land : PySem.W.findIn K (.ref C_NotFilled) "land" = some none)
    (ox_Odd : K.lookup C_Odd = some (excClassObj nm_Odd qn_Odd C_Odd N_Odd_ bs_Odd bm_Odd true sn_Odd sb_Odd ab_Odd co_Odd dd_Odd k0_Odd k1_Odd k2_Odd k3_Odd k5_Odd "ValueError.__new__"))
    (or_Odd : PySem.HandSPX.refsVE bm_Odd = true)
    (os_Odd : PySem.W.findIn K (.ref C_Odd) "__setattr__" = some (some (.builtin "object.__setattr__")))
    (xc_Odd : PySem.W.keepIn K (.ref C_Odd) = true)
    (ot_Odd : PySem.W.typeIn K (.ref f_Odd___init__) = some (.type "function"))
    (of_Odd_point : PySem.W.findIn K (.ref C_Odd) "point" = some none)
    (ox_Bridge : K.lookup C_Bridge = some (excClassObj nm_Bridge qn_Bridge C_Bridge N_Bridge_ bs_Bridge bm_Bridge true sn_Bridge sb_Bridge ab_Bridge co_Bridge dd_Bridge k0_Bridge k1_Bridge k2_Bridge k3_Bridge k5_Bridge "ValueError.__new__"))
    (or_Bridge : PySem.HandSPX.refsVE bm_Bridge = true)
    (os_Bridge : PySem.W.findIn K (.ref C_Bridge) "__setattr__" = some (some (.builtin "object.__setattr__")))
    (xc_Bridge : PySem.W.keepIn K (.ref C_Bridge) = true)
    (ot_Bridge : PySem.W.typeIn K (.ref f_Bridge___init__) = some (.type "function"))
    (of_Bridge_tie : PySem.W.findIn K (.ref C_Bridge) "tie" = some none)
    (ox_Shared : K.lookup C_Shared = some (excClassObj nm_Shared qn_Shared C_Shared N_Shared_ bs_Shared bm_Shared true sn_Shared sb_Shared ab_Shared co_Shared dd_Shared k0_Shared k1_Shared k2_Shared k3_Shared k5_Shared "ValueError.__new__"))
    (or_Shared : PySem.HandSPX.refsVE bm_Shared = true)
    (os_Shared : PySem.W.findIn K (.ref C_Shared) "__setattr__" = some (some (.builtin "object.__setattr__")))
    (xc_Shared : PySem.W.keepIn K (.ref C_Shared) = true)
    (ot_Shared : PySem.W.typeIn K (.ref f_Shared___init__) = some (.type "function"))
    (of_Shared_one : PySem.W.findIn K (.ref C_Shared) "one" = some none)
    (of_Shared_other : PySem.W.findIn K (.ref C_Shared) "other" = some none)
    (bi_s : PySem.W.specialIn K (.ref C_MapError) "__getattribute__" = some (some (.builtin "type.__getattribute__")))
    (bi_r : PySem.W.readsIn K C_MapError (.type "type") = true)
    (bi_f : PySem.W.findCls K (.ref C_MapError) (.type "type") "__init__" = some (.val (.builtin "ValueError.__init__"))) :
    ∃ fd : FuncData, (∀ (s : Shared) (v : Value), BindsTo s fd ⟨[v], []⟩ [("_law_script", v)]) ∧ ∀ base : Heap, K.In base → base.Ns mainGlobals mg → FnOk Pg w K mg base CX0 4 fa fd ["_law_script"] (sp_law K) := by
  have e := hfa.symm.trans (PySem.W.mg_of X G a_law)
  cases e
  let T : Facts K mg := {
    f_NoWeb___init__ := f_NoWeb___init__, fd_NoWeb___init__ := PySem.W.fnOf "__init__" "NoWeb.__init__" (defArgs s_NoWeb___init__) (defBody s_NoWeb___init__) (defScope s_NoWeb___init__) .none kV_NoWeb___init__ dc_NoWeb___init__ pm_NoWeb___init__ an_NoWeb___init__ cd_NoWeb___init__ ct_NoWeb___init__, F_NoWeb___init__ := (fun_mk (st := s_NoWeb___init__) l_NoWeb___init__ c_NoWeb___init__ k_NoWeb___init__), b_NoWeb___init__ := (((fun_mk (st := s_NoWeb___init__) l_NoWeb___init__ c_NoWeb___init__ k_NoWeb___init__)).binds fun _ _ _ _ _ _ us hl => (match us, hl with | [_, _], _ => rfl)),
    f_NotPlane___init__ := f_NotPlane___init__, fd_NotPlane___init__ := PySem.W.fnOf "__init__" "NotPlane.__init__" (defArgs s_NotPlane___init__) (defBody s_NotPlane___init__) (defScope s_NotPlane___init__) .none kV_NotPlane___init__ dc_NotPlane___init__ pm_NotPlane___init__ an_NotPlane___init__ cd_NotPlane___init__ ct_NotPlane___init__, F_NotPlane___init__ := (fun_mk (st := s_NotPlane___init__) l_NotPlane___init__ c_NotPlane___init__ k_NotPlane___init__), b_NotPlane___init__ := (((fun_mk (st := s_NotPlane___init__) l_NotPlane___init__ c_NotPlane___init__ k_NotPlane___init__)).binds fun _ _ _ _ _ _ us hl => (match us, hl with | [_, _], _ => rfl)),
    f_Alike___init__ := f_Alike___init__, fd_Alike___init__ := PySem.W.fnOf "__init__" "Alike.__init__" (defArgs s_Alike___init__) (defBody s_Alike___init__) (defScope s_Alike___init__) .none kV_Alike___init__ dc_Alike___init__ pm_Alike___init__ an_Alike___init__ cd_Alike___init__ ct_Alike___init__, F_Alike___init__ := (fun_mk (st := s_Alike___init__) l_Alike___init__ c_Alike___init__ k_Alike___init__), b_Alike___init__ := (((fun_mk (st := s_Alike___init__) l_Alike___init__ c_Alike___init__ k_Alike___init__)).binds fun _ _ _ _ _ _ us hl => (match us, hl with | [_, _, _], _ => rfl)),
    f_TooFew___init__ := f_TooFew___init__, fd_TooFew___init__ := PySem.W.fnOf "__init__" "TooFew.__init__" (defArgs s_TooFew___init__) (defBody s_TooFew___init__) (defScope s_TooFew___init__) .none kV_TooFew___init__ dc_TooFew___init__ pm_TooFew___init__ an_TooFew___init__ cd_TooFew___init__ ct_TooFew___init__, F_TooFew___init__ := (fun_mk (st := s_TooFew___init__) l_TooFew___init__ c_TooFew___init__ k_TooFew___init__), b_TooFew___init__ := (((fun_mk (st := s_TooFew___init__) l_TooFew___init__ c_TooFew___init__ k_TooFew___init__)).binds fun _ _ _ _ _ _ us hl => (match us, hl with | [_, _], _ => rfl)),
    f_NotFree___init__ := f_NotFree___init__, fd_NotFree___init__ := PySem.W.fnOf "__init__" "NotFree.__init__" (defArgs s_NotFree___init__) (defBody s_NotFree___init__) (defScope s_NotFree___init__) .none kV_NotFree___init__ dc_NotFree___init__ pm_NotFree___init__ an_NotFree___init__ cd_NotFree___init__ ct_NotFree___init__, F_NotFree___init__ := (fun_mk (st := s_NotFree___init__) l_NotFree___init__ c_NotFree___init__ k_NotFree___init__), b_NotFree___init__ := (((fun_mk (st := s_NotFree___init__) l_NotFree___init__ c_NotFree___init__ k_NotFree___init__)).binds fun _ _ _ _ _ _ us hl => (match us, hl with | [_, _], _ => rfl)),
    f_NotFilled___init__ := f_NotFilled___init__, fd_NotFilled___init__ := PySem.W.fnOf "__init__" "NotFilled.__init__" (defArgs s_NotFilled___init__) (defBody s_NotFilled___init__) (defScope s_NotFilled___init__) .none kV_NotFilled___init__ dc_NotFilled___init__ pm_NotFilled___init__ an_NotFilled___init__ cd_NotFilled___init__ ct_NotFilled___init__, F_NotFilled___init__ := (fun_mk (st := s_NotFilled___init__) l_NotFilled___init__ c_NotFilled___init__ k_NotFilled___init__), b_NotFilled___init__ := (((fun_mk (st := s_NotFilled___init__) l_NotFilled___init__ c_NotFilled___init__ k_NotFilled___init__)).binds fun _ _ _ _ _ _ us hl => (match us, hl with | [_, _], _ => rfl)),
    f_Odd___init__ := f_Odd___init__, fd_Odd___init__ := PySem.W.fnOf "__init__" "Odd.__init__" (defArgs s_Odd___init__) (defBody s_Odd___init__) (defScope s_Odd___init__) .none kV_Odd___init__ dc_Odd___init__ pm_Odd___init__ an_Odd___init__ cd_Odd___init__ ct_Odd___init__, F_Odd___init__ := (fun_mk (st := s_Odd___init__) l_Odd___init__ c_Odd___init__ k_Odd___init__), b_Odd___init__ := (((fun_mk (st := s_Odd___init__) l_Odd___init__ c_Odd___init__ k_Odd___init__)).binds fun _ _ _ _ _ _ us hl => (match us, hl with | [_, _], _ => rfl)),
    f_Bridge___init__ := f_Bridge___init__, fd_Bridge___init__ := PySem.W.fnOf "__init__" "Bridge.__init__" (defArgs s_Bridge___init__) (defBody s_Bridge___init__) (defScope s_Bridge___init__) .none kV_Bridge___init__ dc_Bridge___init__ pm_Bridge___init__ an_Bridge___init__ cd_Bridge___init__ ct_Bridge___init__, F_Bridge___init__ := (fun_mk (st := s_Bridge___init__) l_Bridge___init__ c_Bridge___init__ k_Bridge___init__), b_Bridge___init__ := (((fun_mk (st := s_Bridge___init__) l_Bridge___init__ c_Bridge___init__ k_Bridge___init__)).binds fun _ _ _ _ _ _ us hl => (match us, hl with | [_, _], _ => rfl)),
    f_Shared___init__ := f_Shared___init__, fd_Shared___init__ := PySem.W.fnOf "__init__" "Shared.__init__" (defArgs s_Shared___init__) (defBody s_Shared___init__) (defScope s_Shared___init__) .none kV_Shared___init__ dc_Shared___init__ pm_Shared___init__ an_Shared___init__ cd_Shared___init__ ct_Shared___init__, F_Shared___init__ := (fun_mk (st := s_Shared___init__) l_Shared___init__ c_Shared___init__ k_Shared___init__), b_Shared___init__ := (((fun_mk (st := s_Shared___init__) l_Shared___init__ c_Shared___init__ k_Shared___init__)).binds fun _ _ _ _ _ _ us hl => (match us, hl with | [_, _, _], _ => rfl)),
    f_law_cell := f_law_cell, fd_law_cell := PySem.W.fnOf "_law_cell" "_law_cell" (defArgs s_law_cell) (defBody s_law_cell) (defScope s_law_cell) .none kV_law_cell dc_law_cell pm_law_cell an_law_cell cd_law_cell ct_law_cell, F_law_cell := (fun_mk (st := s_law_cell) l_law_cell c_law_cell k_law_cell), b_law_cell := (((fun_mk (st := s_law_cell) l_law_cell c_law_cell k_law_cell)).binds fun _ _ _ _ _ _ us hl => (match us, hl with | [_, _], _ => rfl)),
    g_law_cell := PySem.W.mg_of X G a_law_cell,
    f_law_two := f_law_two, fd_law_two := PySem.W.fnOf "_law_two" "_law_two" (defArgs s_law_two) (defBody s_law_two) (defScope s_law_two) .none kV_law_two dc_law_two pm_law_two an_law_two cd_law_two ct_law_two, F_law_two := (fun_mk (st := s_law_two) l_law_two c_law_two k_law_two), b_law_two := (((fun_mk (st := s_law_two) l_law_two c_law_two k_law_two)).binds fun _ _ _ _ _ _ us hl => (match us, hl with | [_, _], _ => rfl)),
    g_law_two := PySem.W.mg_of X G a_law_two,
    f_law_fault := f_law_fault, fd_law_fault := PySem.W.fnOf "_law_fault" "_law_fault" (defArgs s_law_fault) (defBody s_law_fault) (defScope s_law_fault) .none kV_law_fault dc_law_fault pm_law_fault an_law_fault cd_law_fault ct_law_fault, F_law_fault := (fun_mk (st := s_law_fault) l_law_fault c_law_fault k_law_fault), b_law_fault := (((fun_mk (st := s_law_fault) l_law_fault c_law_fault k_law_fault)).binds fun _ _ _ _ _ _ us hl => (match us, hl with | [_, _], _ => rfl)),
    g_law_fault := PySem.W.mg_of X G a_law_fault,
    f_law_count := f_law_count, fd_law_count := PySem.W.fnOf "_law_count" "_law_count" (defArgs s_law_count) (defBody s_law_count) (defScope s_law_count) .none kV_law_count dc_law_count pm_law_count an_law_count cd_law_count ct_law_count, F_law_count := (fun_mk (st := s_law_count) l_law_count c_law_count k_law_count), b_law_count := (((fun_mk (st := s_law_count) l_law_count c_law_count k_law_count)).binds fun _ _ _ _ _ _ us hl => (match us, hl with | [_], _ => rfl)),
    g_law_count := PySem.W.mg_of X G a_law_count,
    f_law_kinds := f_law_kinds, fd_law_kinds := PySem.W.fnOf "_law_kinds" "_law_kinds" (defArgs s_law_kinds) (defBody s_law_kinds) (defScope s_law_kinds) .none kV_law_kinds dc_law_kinds pm_law_kinds an_law_kinds cd_law_kinds ct_law_kinds, F_law_kinds := (fun_mk (st := s_law_kinds) l_law_kinds c_law_kinds k_law_kinds), b_law_kinds := (((fun_mk (st := s_law_kinds) l_law_kinds c_law_kinds k_law_kinds)).binds fun _ _ _ _ _ _ us hl => (match us, hl with | [_], _ => rfl)),
    g_law_kinds := PySem.W.mg_of X G a_law_kinds,
    f_law_same := f_law_same, fd_law_same := PySem.W.fnOf "_law_same" "_law_same" (defArgs s_law_same) (defBody s_law_same) (defScope s_law_same) .none kV_law_same dc_law_same pm_law_same an_law_same cd_law_same ct_law_same, F_law_same := (fun_mk (st := s_law_same) l_law_same c_law_same k_law_same), b_law_same := (((fun_mk (st := s_law_same) l_law_same c_law_same k_law_same)).binds fun _ _ _ _ _ _ us hl => (match us, hl with | [_, _], _ => rfl)),
    g_law_same := PySem.W.mg_of X G a_law_same,
    f_law := fa, fd_law := PySem.W.fnOf "law" "law" (defArgs s_law) (defBody s_law) (defScope s_law) .none kV_law dc_law pm_law an_law cd_law ct_law, F_law := (fun_mk (st := s_law) l_law c_law k_law), b_law := (((fun_mk (st := s_law) l_law c_law k_law)).binds fun _ _ _ _ _ _ us hl => (match us, hl with | [_], _ => rfl)),
    g_law := PySem.W.mg_of X G a_law,
    z_ValueError := PySem.W.mg_none_of X G z_ValueError,
    z_all := PySem.W.mg_none_of X G z_all,
    z_bool := PySem.W.mg_none_of X G z_bool,
    z_enumerate := PySem.W.mg_none_of X G z_enumerate,
    z_isinstance := PySem.W.mg_none_of X G z_isinstance,
    z_range := PySem.W.mg_none_of X G z_range,
    EX := ⟨(all1 (by rw [exC_of aC_NoWeb]; exact ⟨xg_NoWeb, xk_NoWeb, xs_NoWeb, xd_NoWeb, xa_NoWeb, xn, xt, xm_NoWeb⟩) (all1 (by rw [exC_of aC_NotPlane]; exact ⟨xg_NotPlane, xk_NotPlane, xs_NotPlane, xd_NotPlane, xa_NotPlane, xn, xt, xm_NotPlane⟩) (all1 (by rw [exC_of aC_Alike]; exact ⟨xg_Alike, xk_Alike, xs_Alike, xd_Alike, xa_Alike, xn, xt, xm_Alike⟩) (all1 (by rw [exC_of aC_TooFew]; exact ⟨xg_TooFew, xk_TooFew, xs_TooFew, xd_TooFew, xa_TooFew, xn, xt, xm_TooFew⟩) (all1 (by rw [exC_of aC_NotFree]; exact ⟨xg_NotFree, xk_NotFree, xs_NotFree, xd_NotFree, xa_NotFree, xn, xt, xm_NotFree⟩) (all1 (by rw [exC_of aC_NotFilled]; exact ⟨xg_NotFilled, xk_NotFilled, xs_NotFilled, xd_NotFilled, xa_NotFilled, xn, xt, xm_NotFilled⟩) (all1 (by rw [exC_of aC_Odd]; exact ⟨xg_Odd, xk_Odd, xs_Odd, xd_Odd, xa_Odd, xn, xt, xm_Odd⟩) (all1 (by rw [exC_of aC_Bridge]; exact ⟨xg_Bridge, xk_Bridge, xs_Bridge, xd_Bridge, xa_Bridge, xn, xt, xm_Bridge⟩) (all1 (by rw [exC_of aC_Shared]; exact ⟨xg_Shared, xk_Shared, xs_Shared, xd_Shared, xa_Shared, xn, xt, xm_Shared⟩) (all1 (by rw [exC_of aC_TooMany]; exact ⟨xg_TooMany, xk_TooMany, xs_TooMany, xd_TooMany, xa_TooMany, xn, xt, xm_TooMany⟩) (all1 (by rw [exC_of aC_TooSmall]; exact ⟨xg_TooSmall, xk_TooSmall, xs_TooSmall, xd_TooSmall, xa_TooSmall, xn, xt, xm_TooSmall⟩) (all1 (by rw [exC_of aC_NoText]; exact ⟨xg_NoText, xk_NoText, xs_NoText, xd_NoText, xa_NoText, xn, xt, xm_NoText⟩) (all1 (by rw [exC_of aC_NoCorner]; exact ⟨xg_NoCorner, xk_NoCorner, xs_NoCorner, xd_NoCorner, xa_NoCorner, xn, xt, xm_NoCorner⟩) (all1 (by rw [exC_of aC_NoRing]; exact ⟨xg_NoRing, xk_NoRing, xs_NoRing, xd_NoRing, xa_NoRing, xn, xt, xm_NoRing⟩) all0)))))))))))))), (all1 (all1 (by rw [exC_of aC_NoWeb]; exact kk_NoWeb_NoWeb) (all1 (by rw [exC_of aC_NoWeb, exC_of aC_NotPlane]; exact kk_NoWeb_NotPlane) (all1 (by rw [exC_of aC_NoWeb, exC_of aC_Alike]; exact kk_NoWeb_Alike) (all1 (by rw [exC_of aC_NoWeb, exC_of aC_TooFew]; exact kk_NoWeb_TooFew) (all1 (by rw [exC_of aC_NoWeb, exC_of aC_NotFree]; exact kk_NoWeb_NotFree) (all1 (by rw [exC_of aC_NoWeb, exC_of aC_NotFilled]; exact kk_NoWeb_NotFilled) (all1 (by rw [exC_of aC_NoWeb, exC_of aC_Odd]; exact kk_NoWeb_Odd) (all1 (by rw [exC_of aC_NoWeb, exC_of aC_Bridge]; exact kk_NoWeb_Bridge) (all1 (by rw [exC_of aC_NoWeb, exC_of aC_Shared]; exact kk_NoWeb_Shared) (all1 (by rw [exC_of aC_NoWeb, exC_of aC_TooMany]; exact kk_NoWeb_TooMany) (all1 (by rw [exC_of aC_NoWeb, exC_of aC_TooSmall]; exact kk_NoWeb_TooSmall) (all1 (by rw [exC_of aC_NoWeb, exC_of aC_NoText]; exact kk_NoWeb_NoText) (all1 (by rw [exC_of aC_NoWeb, exC_of aC_NoCorner]; exact kk_NoWeb_NoCorner) (all1 (by rw [exC_of aC_NoWeb, exC_of aC_NoRing]; exact kk_NoWeb_NoRing) (all1 (by rw [exC_of aC_NoWeb, exC_of aC_MapError]; exact kk_NoWeb_MapError) all0))))))))))))))) (all1 (all1 (by rw [exC_of aC_NotPlane, exC_of aC_NoWeb]; exact kk_NotPlane_NoWeb) (all1 (by rw [exC_of aC_NotPlane]; exact kk_NotPlane_NotPlane) (all1 (by rw [exC_of aC_NotPlane, exC_of aC_Alike]; exact kk_NotPlane_Alike) (all1 (by rw [exC_of aC_NotPlane, exC_of aC_TooFew]; exact kk_NotPlane_TooFew) (all1 (by rw [exC_of aC_NotPlane, exC_of aC_NotFree]; exact kk_NotPlane_NotFree) (all1 (by rw [exC_of aC_NotPlane, exC_of aC_NotFilled]; exact kk_NotPlane_NotFilled) (all1 (by rw [exC_of aC_NotPlane, exC_of aC_Odd]; exact kk_NotPlane_Odd) (all1 (by rw [exC_of aC_NotPlane, exC_of aC_Bridge]; exact kk_NotPlane_Bridge) (all1 (by rw [exC_of aC_NotPlane, exC_of aC_Shared]; exact kk_NotPlane_Shared) (all1 (by rw [exC_of aC_NotPlane, exC_of aC_TooMany]; exact kk_NotPlane_TooMany) (all1 (by rw [exC_of aC_NotPlane, exC_of aC_TooSmall]; exact kk_NotPlane_TooSmall) (all1 (by rw [exC_of aC_NotPlane, exC_of aC_NoText]; exact kk_NotPlane_NoText) (all1 (by rw [exC_of aC_NotPlane, exC_of aC_NoCorner]; exact kk_NotPlane_NoCorner) (all1 (by rw [exC_of aC_NotPlane, exC_of aC_NoRing]; exact kk_NotPlane_NoRing) (all1 (by rw [exC_of aC_NotPlane, exC_of aC_MapError]; exact kk_NotPlane_MapError) all0))))))))))))))) (all1 (all1 (by rw [exC_of aC_Alike, exC_of aC_NoWeb]; exact kk_Alike_NoWeb) (all1 (by rw [exC_of aC_Alike, exC_of aC_NotPlane]; exact kk_Alike_NotPlane) (all1 (by rw [exC_of aC_Alike]; exact kk_Alike_Alike) (all1 (by rw [exC_of aC_Alike, exC_of aC_TooFew]; exact kk_Alike_TooFew) (all1 (by rw [exC_of aC_Alike, exC_of aC_NotFree]; exact kk_Alike_NotFree) (all1 (by rw [exC_of aC_Alike, exC_of aC_NotFilled]; exact kk_Alike_NotFilled) (all1 (by rw [exC_of aC_Alike, exC_of aC_Odd]; exact kk_Alike_Odd) (all1 (by rw [exC_of aC_Alike, exC_of aC_Bridge]; exact kk_Alike_Bridge) (all1 (by rw [exC_of aC_Alike, exC_of aC_Shared]; exact kk_Alike_Shared) (all1 (by rw [exC_of aC_Alike, exC_of aC_TooMany]; exact kk_Alike_TooMany) (all1 (by rw [exC_of aC_Alike, exC_of aC_TooSmall]; exact kk_Alike_TooSmall) (all1 (by rw [exC_of aC_Alike, exC_of aC_NoText]; exact kk_Alike_NoText) (all1 (by rw [exC_of aC_Alike, exC_of aC_NoCorner]; exact kk_Alike_NoCorner) (all1 (by rw [exC_of aC_Alike, exC_of aC_NoRing]; exact kk_Alike_NoRing) (all1 (by rw [exC_of aC_Alike, exC_of aC_MapError]; exact kk_Alike_MapError) all0))))))))))))))) (all1 (all1 (by rw [exC_of aC_TooFew, exC_of aC_NoWeb]; exact kk_TooFew_NoWeb) (all1 (by rw [exC_of aC_TooFew, exC_of aC_NotPlane]; exact kk_TooFew_NotPlane) (all1 (by rw [exC_of aC_TooFew, exC_of aC_Alike]; exact kk_TooFew_Alike) (all1 (by rw [exC_of aC_TooFew]; exact kk_TooFew_TooFew) (all1 (by rw [exC_of aC_TooFew, exC_of aC_NotFree]; exact kk_TooFew_NotFree) (all1 (by rw [exC_of aC_TooFew, exC_of aC_NotFilled]; exact kk_TooFew_NotFilled) (all1 (by rw [exC_of aC_TooFew, exC_of aC_Odd]; exact kk_TooFew_Odd) (all1 (by rw [exC_of aC_TooFew, exC_of aC_Bridge]; exact kk_TooFew_Bridge) (all1 (by rw [exC_of aC_TooFew, exC_of aC_Shared]; exact kk_TooFew_Shared) (all1 (by rw [exC_of aC_TooFew, exC_of aC_TooMany]; exact kk_TooFew_TooMany) (all1 (by rw [exC_of aC_TooFew, exC_of aC_TooSmall]; exact kk_TooFew_TooSmall) (all1 (by rw [exC_of aC_TooFew, exC_of aC_NoText]; exact kk_TooFew_NoText) (all1 (by rw [exC_of aC_TooFew, exC_of aC_NoCorner]; exact kk_TooFew_NoCorner) (all1 (by rw [exC_of aC_TooFew, exC_of aC_NoRing]; exact kk_TooFew_NoRing) (all1 (by rw [exC_of aC_TooFew, exC_of aC_MapError]; exact kk_TooFew_MapError) all0))))))))))))))) (all1 (all1 (by rw [exC_of aC_NotFree, exC_of aC_NoWeb]; exact kk_NotFree_NoWeb) (all1 (by rw [exC_of aC_NotFree, exC_of aC_NotPlane]; exact kk_NotFree_NotPlane) (all1 (by rw [exC_of aC_NotFree, exC_of aC_Alike]; exact kk_NotFree_Alike) (all1 (by rw [exC_of aC_NotFree, exC_of aC_TooFew]; exact kk_NotFree_TooFew) (all1 (by rw [exC_of aC_NotFree]; exact kk_NotFree_NotFree) (all1 (by rw [exC_of aC_NotFree, exC_of aC_NotFilled]; exact kk_NotFree_NotFilled) (all1 (by rw [exC_of aC_NotFree, exC_of aC_Odd]; exact kk_NotFree_Odd) (all1 (by rw [exC_of aC_NotFree, exC_of aC_Bridge]; exact kk_NotFree_Bridge) (all1 (by rw [exC_of aC_NotFree, exC_of aC_Shared]; exact kk_NotFree_Shared) (all1 (by rw [exC_of aC_NotFree, exC_of aC_TooMany]; exact kk_NotFree_TooMany) (all1 (by rw [exC_of aC_NotFree, exC_of aC_TooSmall]; exact kk_NotFree_TooSmall) (all1 (by rw [exC_of aC_NotFree, exC_of aC_NoText]; exact kk_NotFree_NoText) (all1 (by rw [exC_of aC_NotFree, exC_of aC_NoCorner]; exact kk_NotFree_NoCorner) (all1 (by rw [exC_of aC_NotFree, exC_of aC_NoRing]; exact kk_NotFree_NoRing) (all1 (by rw [exC_of aC_NotFree, exC_of aC_MapError]; exact kk_NotFree_MapError) all0))))))))))))))) (all1 (all1 (by rw [exC_of aC_NotFilled, exC_of aC_NoWeb]; exact kk_NotFilled_NoWeb) (all1 (by rw [exC_of aC_NotFilled, exC_of aC_NotPlane]; exact kk_NotFilled_NotPlane) (all1 (by rw [exC_of aC_NotFilled, exC_of aC_Alike]; exact kk_NotFilled_Alike) (all1 (by rw [exC_of aC_NotFilled, exC_of aC_TooFew]; exact kk_NotFilled_TooFew) (all1 (by rw [exC_of aC_NotFilled, exC_of aC_NotFree]; exact kk_NotFilled_NotFree) (all1 (by rw [exC_of aC_NotFilled]; exact kk_NotFilled_NotFilled) (all1 (by rw [exC_of aC_NotFilled, exC_of aC_Odd]; exact kk_NotFilled_Odd) (all1 (by rw [exC_of aC_NotFilled, exC_of aC_Bridge]; exact kk_NotFilled_Bridge) (all1 (by rw [exC_of aC_NotFilled, exC_of aC_Shared]; exact kk_NotFilled_Shared) (all1 (by rw [exC_of aC_NotFilled, exC_of aC_TooMany]; exact kk_NotFilled_TooMany) (all1 (by rw [exC_of aC_NotFilled, exC_of aC_TooSmall]; exact kk_NotFilled_TooSmall) (all1 (by rw [exC_of aC_NotFilled, exC_of aC_NoText]; exact kk_NotFilled_NoText) (all1 (by rw [exC_of aC_NotFilled, exC_of aC_NoCorner]; exact kk_NotFilled_NoCorner) (all1 (by rw [exC_of aC_NotFilled, exC_of aC_NoRing]; exact kk_NotFilled_NoRing) (all1 (by rw [exC_of aC_NotFilled, exC_of aC_MapError]; exact kk_NotFilled_MapError) all0))))))))))))))) (all1 (all1 (by rw [exC_of aC_Odd, exC_of aC_NoWeb]; exact kk_Odd_NoWeb) (all1 (by rw [exC_of aC_Odd, exC_of aC_NotPlane]; exact kk_Odd_NotPlane) (all1 (by rw [exC_of aC_Odd, exC_of aC_Alike]; exact kk_Odd_Alike) (all1 (by rw [exC_of aC_Odd, exC_of aC_TooFew]; exact kk_Odd_TooFew) (all1 (by rw [exC_of aC_Odd, exC_of aC_NotFree]; exact kk_Odd_NotFree) (all1 (by rw [exC_of aC_Odd, exC_of aC_NotFilled]; exact kk_Odd_NotFilled) (all1 (by rw [exC_of aC_Odd]; exact kk_Odd_Odd) (all1 (by rw [exC_of aC_Odd, exC_of aC_Bridge]; exact kk_Odd_Bridge) (all1 (by rw [exC_of aC_Odd, exC_of aC_Shared]; exact kk_Odd_Shared) (all1 (by rw [exC_of aC_Odd, exC_of aC_TooMany]; exact kk_Odd_TooMany) (all1 (by rw [exC_of aC_Odd, exC_of aC_TooSmall]; exact kk_Odd_TooSmall) (all1 (by rw [exC_of aC_Odd, exC_of aC_NoText]; exact kk_Odd_NoText) (all1 (by rw [exC_of aC_Odd, exC_of aC_NoCorner]; exact kk_Odd_NoCorner) (all1 (by rw [exC_of aC_Odd, exC_of aC_NoRing]; exact kk_Odd_NoRing) (all1 (by rw [exC_of aC_Odd, exC_of aC_MapError]; exact kk_Odd_MapError) all0))))))))))))))) (all1 (all1 (by rw [exC_of aC_Bridge, exC_of aC_NoWeb]; exact kk_Bridge_NoWeb) (all1 (by rw [exC_of aC_Bridge, exC_of aC_NotPlane]; exact kk_Bridge_NotPlane) (all1 (by rw [exC_of aC_Bridge, exC_of aC_Alike]; exact kk_Bridge_Alike) (all1 (by rw [exC_of aC_Bridge, exC_of aC_TooFew]; exact kk_Bridge_TooFew) (all1 (by rw [exC_of aC_Bridge, exC_of aC_NotFree]; exact kk_Bridge_NotFree) (all1 (by rw [exC_of aC_Bridge, exC_of aC_NotFilled]; exact kk_Bridge_NotFilled) (all1 (by rw [exC_of aC_Bridge, exC_of aC_Odd]; exact kk_Bridge_Odd) (all1 (by rw [exC_of aC_Bridge]; exact kk_Bridge_Bridge) (all1 (by rw [exC_of aC_Bridge, exC_of aC_Shared]; exact kk_Bridge_Shared) (all1 (by rw [exC_of aC_Bridge, exC_of aC_TooMany]; exact kk_Bridge_TooMany) (all1 (by rw [exC_of aC_Bridge, exC_of aC_TooSmall]; exact kk_Bridge_TooSmall) (all1 (by rw [exC_of aC_Bridge, exC_of aC_NoText]; exact kk_Bridge_NoText) (all1 (by rw [exC_of aC_Bridge, exC_of aC_NoCorner]; exact kk_Bridge_NoCorner) (all1 (by rw [exC_of aC_Bridge, exC_of aC_NoRing]; exact kk_Bridge_NoRing) (all1 (by rw [exC_of aC_Bridge, exC_of aC_MapError]; exact kk_Bridge_MapError) all0))))))))))))))) (all1 (all1 (by rw [exC_of aC_Shared, exC_of aC_NoWeb]; exact kk_Shared_NoWeb) (all1 (by rw [exC_of aC_Shared, exC_of aC_NotPlane]; exact kk_Shared_NotPlane) (all1 (by rw [exC_of aC_Shared, exC_of aC_Alike]; exact kk_Shared_Alike) (all1 (by rw [exC_of aC_Shared, exC_of aC_TooFew]; exact kk_Shared_TooFew) (all1 (by rw [exC_of aC_Shared, exC_of aC_NotFree]; exact kk_Shared_NotFree) (all1 (by rw [exC_of aC_Shared, exC_of aC_NotFilled]; exact kk_Shared_NotFilled) (all1 (by rw [exC_of aC_Shared, exC_of aC_Odd]; exact kk_Shared_Odd) (all1 (by rw [exC_of aC_Shared, exC_of aC_Bridge]; exact kk_Shared_Bridge) (all1 (by rw [exC_of aC_Shared]; exact kk_Shared_Shared) (all1 (by rw [exC_of aC_Shared, exC_of aC_TooMany]; exact kk_Shared_TooMany) (all1 (by rw [exC_of aC_Shared, exC_of aC_TooSmall]; exact kk_Shared_TooSmall) (all1 (by rw [exC_of aC_Shared, exC_of aC_NoText]; exact kk_Shared_NoText) (all1 (by rw [exC_of aC_Shared, exC_of aC_NoCorner]; exact kk_Shared_NoCorner) (all1 (by rw [exC_of aC_Shared, exC_of aC_NoRing]; exact kk_Shared_NoRing) (all1 (by rw [exC_of aC_Shared, exC_of aC_MapError]; exact kk_Shared_MapError) all0))))))))))))))) (all1 (all1 (by rw [exC_of aC_TooMany, exC_of aC_NoWeb]; exact kk_TooMany_NoWeb) (all1 (by rw [exC_of aC_TooMany, exC_of aC_NotPlane]; exact kk_TooMany_NotPlane) (all1 (by rw [exC_of aC_TooMany, exC_of aC_Alike]; exact kk_TooMany_Alike) (all1 (by rw [exC_of aC_TooMany, exC_of aC_TooFew]; exact kk_TooMany_TooFew) (all1 (by rw [exC_of aC_TooMany, exC_of aC_NotFree]; exact kk_TooMany_NotFree) (all1 (by rw [exC_of aC_TooMany, exC_of aC_NotFilled]; exact kk_TooMany_NotFilled) (all1 (by rw [exC_of aC_TooMany, exC_of aC_Odd]; exact kk_TooMany_Odd) (all1 (by rw [exC_of aC_TooMany, exC_of aC_Bridge]; exact kk_TooMany_Bridge) (all1 (by rw [exC_of aC_TooMany, exC_of aC_Shared]; exact kk_TooMany_Shared) (all1 (by rw [exC_of aC_TooMany]; exact kk_TooMany_TooMany) (all1 (by rw [exC_of aC_TooMany, exC_of aC_TooSmall]; exact kk_TooMany_TooSmall) (all1 (by rw [exC_of aC_TooMany, exC_of aC_NoText]; exact kk_TooMany_NoText) (all1 (by rw [exC_of aC_TooMany, exC_of aC_NoCorner]; exact kk_TooMany_NoCorner) (all1 (by rw [exC_of aC_TooMany, exC_of aC_NoRing]; exact kk_TooMany_NoRing) (all1 (by rw [exC_of aC_TooMany, exC_of aC_MapError]; exact kk_TooMany_MapError) all0))))))))))))))) (all1 (all1 (by rw [exC_of aC_TooSmall, exC_of aC_NoWeb]; exact kk_TooSmall_NoWeb) (all1 (by rw [exC_of aC_TooSmall, exC_of aC_NotPlane]; exact kk_TooSmall_NotPlane) (all1 (by rw [exC_of aC_TooSmall, exC_of aC_Alike]; exact kk_TooSmall_Alike) (all1 (by rw [exC_of aC_TooSmall, exC_of aC_TooFew]; exact kk_TooSmall_TooFew) (all1 (by rw [exC_of aC_TooSmall, exC_of aC_NotFree]; exact kk_TooSmall_NotFree) (all1 (by rw [exC_of aC_TooSmall, exC_of aC_NotFilled]; exact kk_TooSmall_NotFilled) (all1 (by rw [exC_of aC_TooSmall, exC_of aC_Odd]; exact kk_TooSmall_Odd) (all1 (by rw [exC_of aC_TooSmall, exC_of aC_Bridge]; exact kk_TooSmall_Bridge) (all1 (by rw [exC_of aC_TooSmall, exC_of aC_Shared]; exact kk_TooSmall_Shared) (all1 (by rw [exC_of aC_TooSmall, exC_of aC_TooMany]; exact kk_TooSmall_TooMany) (all1 (by rw [exC_of aC_TooSmall]; exact kk_TooSmall_TooSmall) (all1 (by rw [exC_of aC_TooSmall, exC_of aC_NoText]; exact kk_TooSmall_NoText) (all1 (by rw [exC_of aC_TooSmall, exC_of aC_NoCorner]; exact kk_TooSmall_NoCorner) (all1 (by rw [exC_of aC_TooSmall, exC_of aC_NoRing]; exact kk_TooSmall_NoRing) (all1 (by rw [exC_of aC_TooSmall, exC_of aC_MapError]; exact kk_TooSmall_MapError) all0))))))))))))))) (all1 (all1 (by rw [exC_of aC_NoText, exC_of aC_NoWeb]; exact kk_NoText_NoWeb) (all1 (by rw [exC_of aC_NoText, exC_of aC_NotPlane]; exact kk_NoText_NotPlane) (all1 (by rw [exC_of aC_NoText, exC_of aC_Alike]; exact kk_NoText_Alike) (all1 (by rw [exC_of aC_NoText, exC_of aC_TooFew]; exact kk_NoText_TooFew) (all1 (by rw [exC_of aC_NoText, exC_of aC_NotFree]; exact kk_NoText_NotFree) (all1 (by rw [exC_of aC_NoText, exC_of aC_NotFilled]; exact kk_NoText_NotFilled) (all1 (by rw [exC_of aC_NoText, exC_of aC_Odd]; exact kk_NoText_Odd) (all1 (by rw [exC_of aC_NoText, exC_of aC_Bridge]; exact kk_NoText_Bridge) (all1 (by rw [exC_of aC_NoText, exC_of aC_Shared]; exact kk_NoText_Shared) (all1 (by rw [exC_of aC_NoText, exC_of aC_TooMany]; exact kk_NoText_TooMany) (all1 (by rw [exC_of aC_NoText, exC_of aC_TooSmall]; exact kk_NoText_TooSmall) (all1 (by rw [exC_of aC_NoText]; exact kk_NoText_NoText) (all1 (by rw [exC_of aC_NoText, exC_of aC_NoCorner]; exact kk_NoText_NoCorner) (all1 (by rw [exC_of aC_NoText, exC_of aC_NoRing]; exact kk_NoText_NoRing) (all1 (by rw [exC_of aC_NoText, exC_of aC_MapError]; exact kk_NoText_MapError) all0))))))))))))))) (all1 (all1 (by rw [exC_of aC_NoCorner, exC_of aC_NoWeb]; exact kk_NoCorner_NoWeb) (all1 (by rw [exC_of aC_NoCorner, exC_of aC_NotPlane]; exact kk_NoCorner_NotPlane) (all1 (by rw [exC_of aC_NoCorner, exC_of aC_Alike]; exact kk_NoCorner_Alike) (all1 (by rw [exC_of aC_NoCorner, exC_of aC_TooFew]; exact kk_NoCorner_TooFew) (all1 (by rw [exC_of aC_NoCorner, exC_of aC_NotFree]; exact kk_NoCorner_NotFree) (all1 (by rw [exC_of aC_NoCorner, exC_of aC_NotFilled]; exact kk_NoCorner_NotFilled) (all1 (by rw [exC_of aC_NoCorner, exC_of aC_Odd]; exact kk_NoCorner_Odd) (all1 (by rw [exC_of aC_NoCorner, exC_of aC_Bridge]; exact kk_NoCorner_Bridge) (all1 (by rw [exC_of aC_NoCorner, exC_of aC_Shared]; exact kk_NoCorner_Shared) (all1 (by rw [exC_of aC_NoCorner, exC_of aC_TooMany]; exact kk_NoCorner_TooMany) (all1 (by rw [exC_of aC_NoCorner, exC_of aC_TooSmall]; exact kk_NoCorner_TooSmall) (all1 (by rw [exC_of aC_NoCorner, exC_of aC_NoText]; exact kk_NoCorner_NoText) (all1 (by rw [exC_of aC_NoCorner]; exact kk_NoCorner_NoCorner) (all1 (by rw [exC_of aC_NoCorner, exC_of aC_NoRing]; exact kk_NoCorner_NoRing) (all1 (by rw [exC_of aC_NoCorner, exC_of aC_MapError]; exact kk_NoCorner_MapError) all0))))))))))))))) (all1 (all1 (by rw [exC_of aC_NoRing, exC_of aC_NoWeb]; exact kk_NoRing_NoWeb) (all1 (by rw [exC_of aC_NoRing, exC_of aC_NotPlane]; exact kk_NoRing_NotPlane) (all1 (by rw [exC_of aC_NoRing, exC_of aC_Alike]; exact kk_NoRing_Alike) (all1 (by rw [exC_of aC_NoRing, exC_of aC_TooFew]; exact kk_NoRing_TooFew) (all1 (by rw [exC_of aC_NoRing, exC_of aC_NotFree]; exact kk_NoRing_NotFree) (all1 (by rw [exC_of aC_NoRing, exC_of aC_NotFilled]; exact kk_NoRing_NotFilled) (all1 (by rw [exC_of aC_NoRing, exC_of aC_Odd]; exact kk_NoRing_Odd) (all1 (by rw [exC_of aC_NoRing, exC_of aC_Bridge]; exact kk_NoRing_Bridge) (all1 (by rw [exC_of aC_NoRing, exC_of aC_Shared]; exact kk_NoRing_Shared) (all1 (by rw [exC_of aC_NoRing, exC_of aC_TooMany]; exact kk_NoRing_TooMany) (all1 (by rw [exC_of aC_NoRing, exC_of aC_TooSmall]; exact kk_NoRing_TooSmall) (all1 (by rw [exC_of aC_NoRing, exC_of aC_NoText]; exact kk_NoRing_NoText) (all1 (by rw [exC_of aC_NoRing, exC_of aC_NoCorner]; exact kk_NoRing_NoCorner) (all1 (by rw [exC_of aC_NoRing]; exact kk_NoRing_NoRing) (all1 (by rw [exC_of aC_NoRing, exC_of aC_MapError]; exact kk_NoRing_MapError) all0))))))))))))))) all0)))))))))))))), (all1 (by rw [exC_of aC_NoWeb]; exact kv_NoWeb) (all1 (by rw [exC_of aC_NotPlane]; exact kv_NotPlane) (all1 (by rw [exC_of aC_Alike]; exact kv_Alike) (all1 (by rw [exC_of aC_TooFew]; exact kv_TooFew) (all1 (by rw [exC_of aC_NotFree]; exact kv_NotFree) (all1 (by rw [exC_of aC_NotFilled]; exact kv_NotFilled) (all1 (by rw [exC_of aC_Odd]; exact kv_Odd) (all1 (by rw [exC_of aC_Bridge]; exact kv_Bridge) (all1 (by rw [exC_of aC_Shared]; exact kv_Shared) (all1 (by rw [exC_of aC_TooMany]; exact kv_TooMany) (all1 (by rw [exC_of aC_TooSmall]; exact kv_TooSmall) (all1 (by rw [exC_of aC_NoText]; exact kv_NoText) (all1 (by rw [exC_of aC_NoCorner]; exact kv_NoCorner) (all1 (by rw [exC_of aC_NoRing]; exact kv_NoRing) all0)))))))))))))), (all1 all0 (all1 all0 (all1 all0 (all1 all0 (all1 all0 (all1 all0 (all1 all0 (all1 all0 (all1 all0 (all1 all0 (all1 all0 (all1 all0 (all1 all0 (all1 all0 all0)))))))))))))), (all1 (by rw [exC_of aC_NoWeb]; exact PySem.W.mg_of X G aC_NoWeb) (all1 (by rw [exC_of aC_NotPlane]; exact PySem.W.mg_of X G aC_NotPlane) (all1 (by rw [exC_of aC_Alike]; exact PySem.W.mg_of X G aC_Alike) (all1 (by rw [exC_of aC_TooFew]; exact PySem.W.mg_of X G aC_TooFew) (all1 (by rw [exC_of aC_NotFree]; exact PySem.W.mg_of X G aC_NotFree) (all1 (by rw [exC_of aC_NotFilled]; exact PySem.W.mg_of X G aC_NotFilled) (all1 (by rw [exC_of aC_Odd]; exact PySem.W.mg_of X G aC_Odd) (all1 (by rw [exC_of aC_Bridge]; exact PySem.W.mg_of X G aC_Bridge) (all1 (by rw [exC_of aC_Shared]; exact PySem.W.mg_of X G aC_Shared) (all1 (by rw [exC_of aC_TooMany]; exact PySem.W.mg_of X G aC_TooMany) (all1 (by rw [exC_of aC_TooSmall]; exact PySem.W.mg_of X G aC_TooSmall) (all1 (by rw [exC_of aC_NoText]; exact PySem.W.mg_of X G aC_NoText) (all1 (by rw [exC_of aC_NoCorner]; exact PySem.W.mg_of X G aC_NoCorner) (all1 (by rw [exC_of aC_NoRing]; exact PySem.W.mg_of X G aC_NoRing) (all1 (by rw [exC_of aC_MapError]; exact PySem.W.mg_of X G aC_MapError) all0)))))))))))))))⟩,
    EO_TooMany := by have e_ := exC_of aC_TooMany; exact ⟨by rw [e_]; exact xx_TooMany, by rw [e_]; exact xc_TooMany, by rw [e_]; exact xs_TooMany, by rw [e_]; exact xy_TooMany, by rw [e_]; exact PySem.W.mg_of X G aC_TooMany⟩,
    EO_TooSmall := by have e_ := exC_of aC_TooSmall; exact ⟨by rw [e_]; exact xx_TooSmall, by rw [e_]; exact xc_TooSmall, by rw [e_]; exact xs_TooSmall, by rw [e_]; exact xy_TooSmall, by rw [e_]; exact PySem.W.mg_of X G aC_TooSmall⟩,
    EO_NoText := by have e_ := exC_of aC_NoText; exact ⟨by rw [e_]; exact xx_NoText, by rw [e_]; exact xc_NoText, by rw [e_]; exact xs_NoText, by rw [e_]; exact xy_NoText, by rw [e_]; exact PySem.W.mg_of X G aC_NoText⟩,
    EO_NoCorner := by have e_ := exC_of aC_NoCorner; exact ⟨by rw [e_]; exact xx_NoCorner, by rw [e_]; exact xc_NoCorner, by rw [e_]; exact xs_NoCorner, by rw [e_]; exact xy_NoCorner, by rw [e_]; exact PySem.W.mg_of X G aC_NoCorner⟩,
    EO_NoRing := by have e_ := exC_of aC_NoRing; exact ⟨by rw [e_]; exact xx_NoRing, by rw [e_]; exact xc_NoRing, by rw [e_]; exact xs_NoRing, by rw [e_]; exact xy_NoRing, by rw [e_]; exact PySem.W.mg_of X G aC_NoRing⟩,
    EF_NoWeb := by have e_ := exC_of aC_NoWeb; exact ⟨by rw [e_]; exact ⟨⟨_, _, _, _, _, _, _, _, _, _, _, _, _, _, _, ox_NoWeb, or_NoWeb⟩, os_NoWeb, xs_NoWeb, xy_NoWeb, xc_NoWeb⟩, by rw [e_]; exact a_NoWeb___init__, ot_NoWeb, by rw [e_]; exact PySem.W.mg_of X G aC_NoWeb, by rw [e_]; exact (all1 of_NoWeb_fault all0)⟩,
    EF_NotPlane := by have e_ := exC_of aC_NotPlane; exact ⟨by rw [e_]; exact ⟨⟨_, _, _, _, _, _, _, _, _, _, _, _, _, _, _, ox_NotPlane, or_NotPlane⟩, os_NotPlane, xs_NotPlane, xy_NotPlane, xc_NotPlane⟩, by rw [e_]; exact a_NotPlane___init__, ot_NotPlane, by rw [e_]; exact PySem.W.mg_of X G aC_NotPlane, by rw [e_]; exact (all1 of_NotPlane_counted all0)⟩,
    EF_Alike := by have e_ := exC_of aC_Alike; exact ⟨by rw [e_]; exact ⟨⟨_, _, _, _, _, _, _, _, _, _, _, _, _, _, _, ox_Alike, or_Alike⟩, os_Alike, xs_Alike, xy_Alike, xc_Alike⟩, by rw [e_]; exact a_Alike___init__, ot_Alike, by rw [e_]; exact PySem.W.mg_of X G aC_Alike, by rw [e_]; exact (all1 of_Alike_one (all1 of_Alike_other all0))⟩,
    EF_TooFew := by have e_ := exC_of aC_TooFew; exact ⟨by rw [e_]; exact ⟨⟨_, _, _, _, _, _, _, _, _, _, _, _, _, _, _, ox_TooFew, or_TooFew⟩, os_TooFew, xs_TooFew, xy_TooFew, xc_TooFew⟩, by rw [e_]; exact a_TooFew___init__, ot_TooFew, by rw [e_]; exact PySem.W.mg_of X G aC_TooFew, by rw [e_]; exact (all1 of_TooFew_point all0)⟩,
    EF_NotFree := by have e_ := exC_of aC_NotFree; exact ⟨by rw [e_]; exact ⟨⟨_, _, _, _, _, _, _, _, _, _, _, _, _, _, _, ox_NotFree, or_NotFree⟩, os_NotFree, xs_NotFree, xy_NotFree, xc_NotFree⟩, by rw [e_]; exact a_NotFree___init__, ot_NotFree, by rw [e_]; exact PySem.W.mg_of X G aC_NotFree, by rw [e_]; exact (all1 of_NotFree_point all0)⟩,
    EF_NotFilled := by have e_ := exC_of aC_NotFilled; exact ⟨by rw [e_]; exact ⟨⟨_, _, _, _, _, _, _, _, _, _, _, _, _, _, _, ox_NotFilled, or_NotFilled⟩, os_NotFilled, xs_NotFilled, xy_NotFilled, xc_NotFilled⟩, by rw [e_]; exact a_NotFilled___init__, ot_NotFilled, by rw [e_]; exact PySem.W.mg_of X G aC_NotFilled, by rw [e_]; exact (all1 of_NotFilled_land all0)⟩,
    EF_Odd := by have e_ := exC_of aC_Odd; exact ⟨by rw [e_]; exact ⟨⟨_, _, _, _, _, _, _, _, _, _, _, _, _, _, _, ox_Odd, or_Odd⟩, os_Odd, xs_Odd, xy_Odd, xc_Odd⟩, by rw [e_]; exact a_Odd___init__, ot_Odd, by rw [e_]; exact PySem.W.mg_of X G aC_Odd, by rw [e_]; exact (all1 of_Odd_point all0)⟩,
    EF_Bridge := by have e_ := exC_of aC_Bridge; exact ⟨by rw [e_]; exact ⟨⟨_, _, _, _, _, _, _, _, _, _, _, _, _, _, _, ox_Bridge, or_Bridge⟩, os_Bridge, xs_Bridge, xy_Bridge, xc_Bridge⟩, by rw [e_]; exact a_Bridge___init__, ot_Bridge, by rw [e_]; exact PySem.W.mg_of X G aC_Bridge, by rw [e_]; exact (all1 of_Bridge_tie all0)⟩,
    EF_Shared := by have e_ := exC_of aC_Shared; exact ⟨by rw [e_]; exact ⟨⟨_, _, _, _, _, _, _, _, _, _, _, _, _, _, _, ox_Shared, or_Shared⟩, os_Shared, xs_Shared, xy_Shared, xc_Shared⟩, by rw [e_]; exact a_Shared___init__, ot_Shared, by rw [e_]; exact PySem.W.mg_of X G aC_Shared, by rw [e_]; exact (all1 of_Shared_one (all1 of_Shared_other all0))⟩,
    BI := by have e_ := exC_of aC_MapError; exact ⟨by rw [e_]; exact bi_s, by rw [e_]; exact bi_r, by rw [e_]; exact bi_f, by rw [e_]; exact PySem.W.mg_of X G aC_MapError⟩ }
  refine ⟨PySem.W.fnOf "law" "law" (defArgs s_law) (defBody s_law) (defScope s_law) .none kV_law dc_law pm_law an_law cd_law ct_law, fun s v => .of_eq rfl, fun base _ _ => ok_law T⟩
theorem sp_start {w : World} {K : Frag} (hlaw : ∀ ns : List Int, ns.length ≤ 63 → (∀ z ∈ ns, Builtin.Int.intBits z ≤ 1048576) → f_law ⟨ns⟩ = some true) (H : Hp) (a : Addr) (ns : List Int) (hl : ns.length ≤ 63) (hb : ∀ z ∈ ns, Builtin.Int.intBits z ≤ 1048576) (hS : SqL K H a (ns.map V.int)) :
    sp_law K [.ref a] H (fun v _ => v = .bl true) fun _ _ _ => False := by
  refine ⟨⟨ns⟩, H, fun _ => none, [[]], ⟨.cons ⟨rfl, .ref a, H, rfl, ⟨a, _, rfl, hS, Rs.ofInts _⟩, fun b o h => .inr h⟩ .nil, Same.refl _, (fun b o h => by cases h), by simp, (fun a h => by simp at h), (fun a h => by simp at h)⟩, .rt true, retD_some (hlaw ns hl hb), fun v F' A As' σ' H' ok' fr => ?_⟩
  obtain ⟨⟨_, v', e, r⟩, _, _⟩ := ok'.head
  cases e
  exact r
end M
open PySem PySem.W PyProof.Rows
set_option maxHeartbeats 0 in
theorem PySem.Challenge.cw_mapdye_k18_refusals_made_holds : PySem.Challenge.rw_mapdye_k18_refusals_made.Holds := by
  w_on; o_law; k_head; (case hw => w_witness2)
  k_fill
  refine L2.walk_ofB (l := PySem.Challenge.rw_mapdye_k18_refusals_made) (n := 63) (k := 4) (x := "_law_script") (CX := fun _ => L2.CX0) (sp := fun w => M.sp_law _) rfl (by decide) rfl ⟨rfl, by decide, by decide⟩ (fun w h Y => PySem.W.kIn_of Y) ?F (fun w H a ns hl hb _ hS => M.sp_start (w := w) M.law_true H a ns hl hb hS) (fun _ _ _ _ _ h => h)
  case F =>
    intro w mg fa h KX G hmg
    refine' M.all_mk KX G hmg ?aC_NoWeb ?aC_NotPlane ?aC_Alike ?aC_TooFew ?aC_NotFree ?aC_NotFilled ?aC_Odd ?aC_Bridge ?aC_Shared ?aC_TooMany ?aC_TooSmall ?aC_NoText ?aC_NoCorner ?aC_NoRing ?aC_MapError ?a_NoWeb___init__ ?i_NoWeb___init__ ?l_NoWeb___init__ ?c_NoWeb___init__ ?k_NoWeb___init__ ?a_NotPlane___init__ ?i_NotPlane___init__ ?l_NotPlane___init__ ?c_NotPlane___init__ ?k_NotPlane___init__ ?a_Alike___init__ ?i_Alike___init__ ?l_Alike___init__ ?c_Alike___init__ ?k_Alike___init__ ?a_TooFew___init__ ?i_TooFew___init__ ?l_TooFew___init__ ?c_TooFew___init__ ?k_TooFew___init__ ?a_NotFree___init__ ?i_NotFree___init__ ?l_NotFree___init__ ?c_NotFree___init__ ?k_NotFree___init__ ?a_NotFilled___init__ ?i_NotFilled___init__ ?l_NotFilled___init__ ?c_NotFilled___init__ ?k_NotFilled___init__ ?a_Odd___init__ ?i_Odd___init__ ?l_Odd___init__ ?c_Odd___init__ ?k_Odd___init__ ?a_Bridge___init__ ?i_Bridge___init__ ?l_Bridge___init__ ?c_Bridge___init__ ?k_Bridge___init__ ?a_Shared___init__ ?i_Shared___init__ ?l_Shared___init__ ?c_Shared___init__ ?k_Shared___init__ ?a_law_cell ?l_law_cell ?c_law_cell ?k_law_cell ?a_law_two ?l_law_two ?c_law_two ?k_law_two ?a_law_fault ?l_law_fault ?c_law_fault ?k_law_fault ?a_law_count ?l_law_count ?c_law_count ?k_law_count ?a_law_kinds ?l_law_kinds ?c_law_kinds ?k_law_kinds ?a_law_same ?l_law_same ?c_law_same ?k_law_same ?a_law ?l_law ?c_law ?k_law ?z_ValueError ?z_all ?z_bool ?z_enumerate ?z_isinstance ?z_range ?xn ?xt ?xs_NoWeb ?xg_NoWeb ?xk_NoWeb ?xd_NoWeb ?xa_NoWeb ?xy_NoWeb ?xm_NoWeb ?kk_NoWeb_NoWeb ?kk_NoWeb_NotPlane ?kk_NoWeb_Alike ?kk_NoWeb_TooFew ?kk_NoWeb_NotFree ?kk_NoWeb_NotFilled ?kk_NoWeb_Odd ?kk_NoWeb_Bridge ?kk_NoWeb_Shared ?kk_NoWeb_TooMany ?kk_NoWeb_TooSmall ?kk_NoWeb_NoText ?kk_NoWeb_NoCorner ?kk_NoWeb_NoRing ?kk_NoWeb_MapError ?kv_NoWeb ?xs_NotPlane ?xg_NotPlane ?xk_NotPlane ?xd_NotPlane ?xa_NotPlane ?xy_NotPlane ?xm_NotPlane ?kk_NotPlane_NoWeb ?kk_NotPlane_NotPlane ?kk_NotPlane_Alike ?kk_NotPlane_TooFew ?kk_NotPlane_NotFree ?kk_NotPlane_NotFilled ?kk_NotPlane_Odd ?kk_NotPlane_Bridge ?kk_NotPlane_Shared ?kk_NotPlane_TooMany ?kk_NotPlane_TooSmall ?kk_NotPlane_NoText ?kk_NotPlane_NoCorner ?kk_NotPlane_NoRing ?kk_NotPlane_MapError ?kv_NotPlane ?xs_Alike ?xg_Alike ?xk_Alike ?xd_Alike ?xa_Alike ?xy_Alike ?xm_Alike ?kk_Alike_NoWeb ?kk_Alike_NotPlane ?kk_Alike_Alike ?kk_Alike_TooFew ?kk_Alike_NotFree ?kk_Alike_NotFilled ?kk_Alike_Odd ?kk_Alike_Bridge ?kk_Alike_Shared ?kk_Alike_TooMany ?kk_Alike_TooSmall ?kk_Alike_NoText ?kk_Alike_NoCorner ?kk_Alike_NoRing ?kk_Alike_MapError ?kv_Alike ?xs_TooFew ?xg_TooFew ?xk_TooFew ?xd_TooFew ?xa_TooFew ?xy_TooFew ?xm_TooFew ?kk_TooFew_NoWeb ?kk_TooFew_NotPlane ?kk_TooFew_Alike ?kk_TooFew_TooFew ?kk_TooFew_NotFree ?kk_TooFew_NotFilled ?kk_TooFew_Odd ?kk_TooFew_Bridge ?kk_TooFew_Shared ?kk_TooFew_TooMany ?kk_TooFew_TooSmall ?kk_TooFew_NoText ?kk_TooFew_NoCorner ?kk_TooFew_NoRing ?kk_TooFew_MapError ?kv_TooFew ?xs_NotFree ?xg_NotFree ?xk_NotFree ?xd_NotFree ?xa_NotFree ?xy_NotFree ?xm_NotFree ?kk_NotFree_NoWeb ?kk_NotFree_NotPlane ?kk_NotFree_Alike ?kk_NotFree_TooFew ?kk_NotFree_NotFree ?kk_NotFree_NotFilled ?kk_NotFree_Odd ?kk_NotFree_Bridge ?kk_NotFree_Shared ?kk_NotFree_TooMany ?kk_NotFree_TooSmall ?kk_NotFree_NoText ?kk_NotFree_NoCorner ?kk_NotFree_NoRing ?kk_NotFree_MapError ?kv_NotFree ?xs_NotFilled ?xg_NotFilled ?xk_NotFilled ?xd_NotFilled ?xa_NotFilled ?xy_NotFilled ?xm_NotFilled ?kk_NotFilled_NoWeb ?kk_NotFilled_NotPlane ?kk_NotFilled_Alike ?kk_NotFilled_TooFew ?kk_NotFilled_NotFree ?kk_NotFilled_NotFilled ?kk_NotFilled_Odd ?kk_NotFilled_Bridge ?kk_NotFilled_Shared ?kk_NotFilled_TooMany ?kk_NotFilled_TooSmall ?kk_NotFilled_NoText ?kk_NotFilled_NoCorner ?kk_NotFilled_NoRing ?kk_NotFilled_MapError ?kv_NotFilled ?xs_Odd ?xg_Odd ?xk_Odd ?xd_Odd ?xa_Odd ?xy_Odd ?xm_Odd ?kk_Odd_NoWeb ?kk_Odd_NotPlane ?kk_Odd_Alike ?kk_Odd_TooFew ?kk_Odd_NotFree ?kk_Odd_NotFilled ?kk_Odd_Odd ?kk_Odd_Bridge ?kk_Odd_Shared ?kk_Odd_TooMany ?kk_Odd_TooSmall ?kk_Odd_NoText ?kk_Odd_NoCorner ?kk_Odd_NoRing ?kk_Odd_MapError ?kv_Odd ?xs_Bridge ?xg_Bridge ?xk_Bridge ?xd_Bridge ?xa_Bridge ?xy_Bridge ?xm_Bridge ?kk_Bridge_NoWeb ?kk_Bridge_NotPlane ?kk_Bridge_Alike ?kk_Bridge_TooFew ?kk_Bridge_NotFree ?kk_Bridge_NotFilled ?kk_Bridge_Odd ?kk_Bridge_Bridge ?kk_Bridge_Shared ?kk_Bridge_TooMany ?kk_Bridge_TooSmall ?kk_Bridge_NoText ?kk_Bridge_NoCorner ?kk_Bridge_NoRing ?kk_Bridge_MapError ?kv_Bridge ?xs_Shared ?xg_Shared ?xk_Shared ?xd_Shared ?xa_Shared ?xy_Shared ?xm_Shared ?kk_Shared_NoWeb ?kk_Shared_NotPlane ?kk_Shared_Alike ?kk_Shared_TooFew ?kk_Shared_NotFree ?kk_Shared_NotFilled ?kk_Shared_Odd ?kk_Shared_Bridge ?kk_Shared_Shared ?kk_Shared_TooMany ?kk_Shared_TooSmall ?kk_Shared_NoText ?kk_Shared_NoCorner ?kk_Shared_NoRing ?kk_Shared_MapError ?kv_Shared ?xs_TooMany ?xg_TooMany ?xk_TooMany ?xd_TooMany ?xa_TooMany ?xy_TooMany ?xm_TooMany ?kk_TooMany_NoWeb ?kk_TooMany_NotPlane ?kk_TooMany_Alike ?kk_TooMany_TooFew ?kk_TooMany_NotFree ?kk_TooMany_NotFilled ?kk_TooMany_Odd ?kk_TooMany_Bridge ?kk_TooMany_Shared ?kk_TooMany_TooMany ?kk_TooMany_TooSmall ?kk_TooMany_NoText ?kk_TooMany_NoCorner ?kk_TooMany_NoRing ?kk_TooMany_MapError ?kv_TooMany ?xx_TooMany ?xc_TooMany ?xs_TooSmall ?xg_TooSmall ?xk_TooSmall ?xd_TooSmall ?xa_TooSmall ?xy_TooSmall ?xm_TooSmall ?kk_TooSmall_NoWeb ?kk_TooSmall_NotPlane ?kk_TooSmall_Alike ?kk_TooSmall_TooFew ?kk_TooSmall_NotFree ?kk_TooSmall_NotFilled ?kk_TooSmall_Odd ?kk_TooSmall_Bridge ?kk_TooSmall_Shared ?kk_TooSmall_TooMany ?kk_TooSmall_TooSmall ?kk_TooSmall_NoText ?kk_TooSmall_NoCorner ?kk_TooSmall_NoRing ?kk_TooSmall_MapError ?kv_TooSmall ?xx_TooSmall ?xc_TooSmall ?xs_NoText ?xg_NoText ?xk_NoText ?xd_NoText ?xa_NoText ?xy_NoText ?xm_NoText ?kk_NoText_NoWeb ?kk_NoText_NotPlane ?kk_NoText_Alike ?kk_NoText_TooFew ?kk_NoText_NotFree ?kk_NoText_NotFilled ?kk_NoText_Odd ?kk_NoText_Bridge ?kk_NoText_Shared ?kk_NoText_TooMany ?kk_NoText_TooSmall ?kk_NoText_NoText ?kk_NoText_NoCorner ?kk_NoText_NoRing ?kk_NoText_MapError ?kv_NoText ?xx_NoText ?xc_NoText ?xs_NoCorner ?xg_NoCorner ?xk_NoCorner ?xd_NoCorner ?xa_NoCorner ?xy_NoCorner ?xm_NoCorner ?kk_NoCorner_NoWeb ?kk_NoCorner_NotPlane ?kk_NoCorner_Alike ?kk_NoCorner_TooFew ?kk_NoCorner_NotFree ?kk_NoCorner_NotFilled ?kk_NoCorner_Odd ?kk_NoCorner_Bridge ?kk_NoCorner_Shared ?kk_NoCorner_TooMany ?kk_NoCorner_TooSmall ?kk_NoCorner_NoText ?kk_NoCorner_NoCorner ?kk_NoCorner_NoRing ?kk_NoCorner_MapError ?kv_NoCorner ?xx_NoCorner ?xc_NoCorner ?xs_NoRing ?xg_NoRing ?xk_NoRing ?xd_NoRing ?xa_NoRing ?xy_NoRing ?xm_NoRing ?kk_NoRing_NoWeb ?kk_NoRing_NotPlane ?kk_NoRing_Alike ?kk_NoRing_TooFew ?kk_NoRing_NotFree ?kk_NoRing_NotFilled ?kk_NoRing_Odd ?kk_NoRing_Bridge ?kk_NoRing_Shared ?kk_NoRing_TooMany ?kk_NoRing_TooSmall ?kk_NoRing_NoText ?kk_NoRing_NoCorner ?kk_NoRing_NoRing ?kk_NoRing_MapError ?kv_NoRing ?xx_NoRing ?xc_NoRing ?ox_NoWeb ?or_NoWeb ?os_NoWeb ?xc_NoWeb ?ot_NoWeb ?of_NoWeb_fault ?ox_NotPlane ?or_NotPlane ?os_NotPlane ?xc_NotPlane ?ot_NotPlane ?of_NotPlane_counted ?ox_Alike ?or_Alike ?os_Alike ?xc_Alike ?ot_Alike ?of_Alike_one ?of_Alike_other ?ox_TooFew ?or_TooFew ?os_TooFew ?xc_TooFew ?ot_TooFew ?of_TooFew_point ?ox_NotFree ?or_NotFree ?os_NotFree ?xc_NotFree ?ot_NotFree ?of_NotFree_point ?ox_NotFilled ?or_NotFilled ?os_NotFilled ?xc_NotFilled ?ot_NotFilled ?of_NotFilled_land ?ox_Odd ?or_Odd ?os_Odd ?xc_Odd ?ot_Odd ?of_Odd_point ?ox_Bridge ?or_Bridge ?os_Bridge ?xc_Bridge ?ot_Bridge ?of_Bridge_tie ?ox_Shared ?or_Shared ?os_Shared ?xc_Shared ?ot_Shared ?of_Shared_one ?of_Shared_other ?bi_s ?bi_r ?bi_f
    (case aC_NoWeb => k_is)
    (case aC_NotPlane => k_is)
    (case aC_Alike => k_is)
    (case aC_TooFew => k_is)
    (case aC_NotFree => k_is)
    (case aC_NotFilled => k_is)
    (case aC_Odd => k_is)
    (case aC_Bridge => k_is)
    (case aC_Shared => k_is)
    (case aC_TooMany => k_is)
    (case aC_TooSmall => k_is)
    (case aC_NoText => k_is)
    (case aC_NoCorner => k_is)
    (case aC_NoRing => k_is)
    (case aC_MapError => k_is)
    (case a_NoWeb___init__ => k_is)
    (case i_NoWeb___init__ => k_is)
    (case l_NoWeb___init__ => k_is)
    (case c_NoWeb___init__ => k_is)
    (case k_NoWeb___init__ => k_is)
    (case a_NotPlane___init__ => k_is)
    (case i_NotPlane___init__ => k_is)
    (case l_NotPlane___init__ => k_is)
    (case c_NotPlane___init__ => k_is)
    (case k_NotPlane___init__ => k_is)
    (case a_Alike___init__ => k_is)
    (case i_Alike___init__ => k_is)
    (case l_Alike___init__ => k_is)
    (case c_Alike___init__ => k_is)
    (case k_Alike___init__ => k_is)
    (case a_TooFew___init__ => k_is)
    (case i_TooFew___init__ => k_is)
    (case l_TooFew___init__ => k_is)
    (case c_TooFew___init__ => k_is)
    (case k_TooFew___init__ => k_is)
    (case a_NotFree___init__ => k_is)
    (case i_NotFree___init__ => k_is)
    (case l_NotFree___init__ => k_is)
    (case c_NotFree___init__ => k_is)
    (case k_NotFree___init__ => k_is)
    (case a_NotFilled___init__ => k_is)
    (case i_NotFilled___init__ => k_is)
    (case l_NotFilled___init__ => k_is)
    (case c_NotFilled___init__ => k_is)
    (case k_NotFilled___init__ => k_is)
    (case a_Odd___init__ => k_is)
    (case i_Odd___init__ => k_is)
    (case l_Odd___init__ => k_is)
    (case c_Odd___init__ => k_is)
    (case k_Odd___init__ => k_is)
    (case a_Bridge___init__ => k_is)
    (case i_Bridge___init__ => k_is)
    (case l_Bridge___init__ => k_is)
    (case c_Bridge___init__ => k_is)
    (case k_Bridge___init__ => k_is)
    (case a_Shared___init__ => k_is)
    (case i_Shared___init__ => k_is)
    (case l_Shared___init__ => k_is)
    (case c_Shared___init__ => k_is)
    (case k_Shared___init__ => k_is)
    (case a_law_cell => k_is)
    (case l_law_cell => k_is)
    (case c_law_cell => k_is)
    (case k_law_cell => k_is)
    (case a_law_two => k_is)
    (case l_law_two => k_is)
    (case c_law_two => k_is)
    (case k_law_two => k_is)
    (case a_law_fault => k_is)
    (case l_law_fault => k_is)
    (case c_law_fault => k_is)
    (case k_law_fault => k_is)
    (case a_law_count => k_is)
    (case l_law_count => k_is)
    (case c_law_count => k_is)
    (case k_law_count => k_is)
    (case a_law_kinds => k_is)
    (case l_law_kinds => k_is)
    (case c_law_kinds => k_is)
    (case k_law_kinds => k_is)
    (case a_law_same => k_is)
    (case l_law_same => k_is)
    (case c_law_same => k_is)
    (case k_law_same => k_is)
    (case a_law => k_is)
    (case l_law => k_is)
    (case c_law => k_is)
    (case k_law => k_is)
    (case z_ValueError => k_is)
    (case z_all => k_is)
    (case z_bool => k_is)
    (case z_enumerate => k_is)
    (case z_isinstance => k_is)
    (case z_range => k_is)
    (case xn => k_is)
    (case xt => k_is)
    (case xs_NoWeb => k_is)
    (case xg_NoWeb => k_is)
    (case xk_NoWeb => k_is)
    (case xd_NoWeb => k_is)
    (case xa_NoWeb => k_is)
    (case xy_NoWeb => k_is)
    (case xm_NoWeb => k_is)
    (case kk_NoWeb_NoWeb => kit_is)
    (case kk_NoWeb_NotPlane => kit_is)
    (case kk_NoWeb_Alike => kit_is)
    (case kk_NoWeb_TooFew => kit_is)
    (case kk_NoWeb_NotFree => kit_is)
    (case kk_NoWeb_NotFilled => kit_is)
    (case kk_NoWeb_Odd => kit_is)
    (case kk_NoWeb_Bridge => kit_is)
    (case kk_NoWeb_Shared => kit_is)
    (case kk_NoWeb_TooMany => kit_is)
    (case kk_NoWeb_TooSmall => kit_is)
    (case kk_NoWeb_NoText => kit_is)
    (case kk_NoWeb_NoCorner => kit_is)
    (case kk_NoWeb_NoRing => kit_is)
    (case kk_NoWeb_MapError => kit_is)
    (case kv_NoWeb => kit_is)
    (case xs_NotPlane => k_is)
    (case xg_NotPlane => k_is)
    (case xk_NotPlane => k_is)
    (case xd_NotPlane => k_is)
    (case xa_NotPlane => k_is)
    (case xy_NotPlane => k_is)
    (case xm_NotPlane => k_is)
    (case kk_NotPlane_NoWeb => kit_is)
    (case kk_NotPlane_NotPlane => kit_is)
    (case kk_NotPlane_Alike => kit_is)
    (case kk_NotPlane_TooFew => kit_is)
    (case kk_NotPlane_NotFree => kit_is)
    (case kk_NotPlane_NotFilled => kit_is)
    (case kk_NotPlane_Odd => kit_is)
    (case kk_NotPlane_Bridge => kit_is)
    (case kk_NotPlane_Shared => kit_is)
    (case kk_NotPlane_TooMany => kit_is)
    (case kk_NotPlane_TooSmall => kit_is)
    (case kk_NotPlane_NoText => kit_is)
    (case kk_NotPlane_NoCorner => kit_is)
    (case kk_NotPlane_NoRing => kit_is)
    (case kk_NotPlane_MapError => kit_is)
    (case kv_NotPlane => kit_is)
    (case xs_Alike => k_is)
    (case xg_Alike => k_is)
    (case xk_Alike => k_is)
    (case xd_Alike => k_is)
    (case xa_Alike => k_is)
    (case xy_Alike => k_is)
    (case xm_Alike => k_is)
    (case kk_Alike_NoWeb => kit_is)
    (case kk_Alike_NotPlane => kit_is)
    (case kk_Alike_Alike => kit_is)
    (case kk_Alike_TooFew => kit_is)
    (case kk_Alike_NotFree => kit_is)
    (case kk_Alike_NotFilled => kit_is)
    (case kk_Alike_Odd => kit_is)
    (case kk_Alike_Bridge => kit_is)
    (case kk_Alike_Shared => kit_is)
    (case kk_Alike_TooMany => kit_is)
    (case kk_Alike_TooSmall => kit_is)
    (case kk_Alike_NoText => kit_is)
    (case kk_Alike_NoCorner => kit_is)
    (case kk_Alike_NoRing => kit_is)
    (case kk_Alike_MapError => kit_is)
    (case kv_Alike => kit_is)
    (case xs_TooFew => k_is)
    (case xg_TooFew => k_is)
    (case xk_TooFew => k_is)
    (case xd_TooFew => k_is)
    (case xa_TooFew => k_is)
    (case xy_TooFew => k_is)
    (case xm_TooFew => k_is)
    (case kk_TooFew_NoWeb => kit_is)
    (case kk_TooFew_NotPlane => kit_is)
    (case kk_TooFew_Alike => kit_is)
    (case kk_TooFew_TooFew => kit_is)
    (case kk_TooFew_NotFree => kit_is)
    (case kk_TooFew_NotFilled => kit_is)
    (case kk_TooFew_Odd => kit_is)
    (case kk_TooFew_Bridge => kit_is)
    (case kk_TooFew_Shared => kit_is)
    (case kk_TooFew_TooMany => kit_is)
    (case kk_TooFew_TooSmall => kit_is)
    (case kk_TooFew_NoText => kit_is)
    (case kk_TooFew_NoCorner => kit_is)
    (case kk_TooFew_NoRing => kit_is)
    (case kk_TooFew_MapError => kit_is)
    (case kv_TooFew => kit_is)
    (case xs_NotFree => k_is)
    (case xg_NotFree => k_is)
    (case xk_NotFree => k_is)
    (case xd_NotFree => k_is)
    (case xa_NotFree => k_is)
    (case xy_NotFree => k_is)
    (case xm_NotFree => k_is)
    (case kk_NotFree_NoWeb => kit_is)
    (case kk_NotFree_NotPlane => kit_is)
    (case kk_NotFree_Alike => kit_is)
    (case kk_NotFree_TooFew => kit_is)
    (case kk_NotFree_NotFree => kit_is)
    (case kk_NotFree_NotFilled => kit_is)
    (case kk_NotFree_Odd => kit_is)
    (case kk_NotFree_Bridge => kit_is)
    (case kk_NotFree_Shared => kit_is)
    (case kk_NotFree_TooMany => kit_is)
    (case kk_NotFree_TooSmall => kit_is)
    (case kk_NotFree_NoText => kit_is)
    (case kk_NotFree_NoCorner => kit_is)
    (case kk_NotFree_NoRing => kit_is)
    (case kk_NotFree_MapError => kit_is)
    (case kv_NotFree => kit_is)
    (case xs_NotFilled => k_is)
    (case xg_NotFilled => k_is)
    (case xk_NotFilled => k_is)
    (case xd_NotFilled => k_is)
    (case xa_NotFilled => k_is)
    (case xy_NotFilled => k_is)
    (case xm_NotFilled => k_is)
    (case kk_NotFilled_NoWeb => kit_is)
    (case kk_NotFilled_NotPlane => kit_is)
    (case kk_NotFilled_Alike => kit_is)
    (case kk_NotFilled_TooFew => kit_is)
    (case kk_NotFilled_NotFree => kit_is)
    (case kk_NotFilled_NotFilled => kit_is)
    (case kk_NotFilled_Odd => kit_is)
    (case kk_NotFilled_Bridge => kit_is)
    (case kk_NotFilled_Shared => kit_is)
    (case kk_NotFilled_TooMany => kit_is)
    (case kk_NotFilled_TooSmall => kit_is)
    (case kk_NotFilled_NoText => kit_is)
    (case kk_NotFilled_NoCorner => kit_is)
    (case kk_NotFilled_NoRing => kit_is)
    (case kk_NotFilled_MapError => kit_is)
    (case kv_NotFilled => kit_is)
    (case xs_Odd => k_is)
    (case xg_Odd => k_is)
    (case xk_Odd => k_is)
    (case xd_Odd => k_is)
    (case xa_Odd => k_is)
    (case xy_Odd => k_is)
    (case xm_Odd => k_is)
    (case kk_Odd_NoWeb => kit_is)
    (case kk_Odd_NotPlane => kit_is)
    (case kk_Odd_Alike => kit_is)
    (case kk_Odd_TooFew => kit_is)
    (case kk_Odd_NotFree => kit_is)
    (case kk_Odd_NotFilled => kit_is)
    (case kk_Odd_Odd => kit_is)
    (case kk_Odd_Bridge => kit_is)
    (case kk_Odd_Shared => kit_is)
    (case kk_Odd_TooMany => kit_is)
    (case kk_Odd_TooSmall => kit_is)
    (case kk_Odd_NoText => kit_is)
    (case kk_Odd_NoCorner => kit_is)
    (case kk_Odd_NoRing => kit_is)
    (case kk_Odd_MapError => kit_is)
    (case kv_Odd => kit_is)
    (case xs_Bridge => k_is)
    (case xg_Bridge => k_is)
    (case xk_Bridge => k_is)
    (case xd_Bridge => k_is)
    (case xa_Bridge => k_is)
    (case xy_Bridge => k_is)
    (case xm_Bridge => k_is)
    (case kk_Bridge_NoWeb => kit_is)
    (case kk_Bridge_NotPlane => kit_is)
    (case kk_Bridge_Alike => kit_is)
    (case kk_Bridge_TooFew => kit_is)
    (case kk_Bridge_NotFree => kit_is)
    (case kk_Bridge_NotFilled => kit_is)
    (case kk_Bridge_Odd => kit_is)
    (case kk_Bridge_Bridge => kit_is)
    (case kk_Bridge_Shared => kit_is)
    (case kk_Bridge_TooMany => kit_is)
    (case kk_Bridge_TooSmall => kit_is)
    (case kk_Bridge_NoText => kit_is)
    (case kk_Bridge_NoCorner => kit_is)
    (case kk_Bridge_NoRing => kit_is)
    (case kk_Bridge_MapError => kit_is)
    (case kv_Bridge => kit_is)
    (case xs_Shared => k_is)
    (case xg_Shared => k_is)
    (case xk_Shared => k_is)
    (case xd_Shared => k_is)
    (case xa_Shared => k_is)
    (case xy_Shared => k_is)
    (case xm_Shared => k_is)
    (case kk_Shared_NoWeb => kit_is)
    (case kk_Shared_NotPlane => kit_is)
    (case kk_Shared_Alike => kit_is)
    (case kk_Shared_TooFew => kit_is)
    (case kk_Shared_NotFree => kit_is)
    (case kk_Shared_NotFilled => kit_is)
    (case kk_Shared_Odd => kit_is)
    (case kk_Shared_Bridge => kit_is)
    (case kk_Shared_Shared => kit_is)
    (case kk_Shared_TooMany => kit_is)
    (case kk_Shared_TooSmall => kit_is)
    (case kk_Shared_NoText => kit_is)
    (case kk_Shared_NoCorner => kit_is)
    (case kk_Shared_NoRing => kit_is)
    (case kk_Shared_MapError => kit_is)
    (case kv_Shared => kit_is)
    (case xs_TooMany => k_is)
    (case xg_TooMany => k_is)
    (case xk_TooMany => k_is)
    (case xd_TooMany => k_is)
    (case xa_TooMany => k_is)
    (case xy_TooMany => k_is)
    (case xm_TooMany => k_is)
    (case kk_TooMany_NoWeb => kit_is)
    (case kk_TooMany_NotPlane => kit_is)
    (case kk_TooMany_Alike => kit_is)
    (case kk_TooMany_TooFew => kit_is)
    (case kk_TooMany_NotFree => kit_is)
    (case kk_TooMany_NotFilled => kit_is)
    (case kk_TooMany_Odd => kit_is)
    (case kk_TooMany_Bridge => kit_is)
    (case kk_TooMany_Shared => kit_is)
    (case kk_TooMany_TooMany => kit_is)
    (case kk_TooMany_TooSmall => kit_is)
    (case kk_TooMany_NoText => kit_is)
    (case kk_TooMany_NoCorner => kit_is)
    (case kk_TooMany_NoRing => kit_is)
    (case kk_TooMany_MapError => kit_is)
    (case kv_TooMany => kit_is)
    (case xx_TooMany => k_exc)
    (case xc_TooMany => k_is)
    (case xs_TooSmall => k_is)
    (case xg_TooSmall => k_is)
    (case xk_TooSmall => k_is)
    (case xd_TooSmall => k_is)
    (case xa_TooSmall => k_is)
    (case xy_TooSmall => k_is)
    (case xm_TooSmall => k_is)
    (case kk_TooSmall_NoWeb => kit_is)
    (case kk_TooSmall_NotPlane => kit_is)
    (case kk_TooSmall_Alike => kit_is)
    (case kk_TooSmall_TooFew => kit_is)
    (case kk_TooSmall_NotFree => kit_is)
    (case kk_TooSmall_NotFilled => kit_is)
    (case kk_TooSmall_Odd => kit_is)
    (case kk_TooSmall_Bridge => kit_is)
    (case kk_TooSmall_Shared => kit_is)
    (case kk_TooSmall_TooMany => kit_is)
    (case kk_TooSmall_TooSmall => kit_is)
    (case kk_TooSmall_NoText => kit_is)
    (case kk_TooSmall_NoCorner => kit_is)
    (case kk_TooSmall_NoRing => kit_is)
    (case kk_TooSmall_MapError => kit_is)
    (case kv_TooSmall => kit_is)
    (case xx_TooSmall => k_exc)
    (case xc_TooSmall => k_is)
    (case xs_NoText => k_is)
    (case xg_NoText => k_is)
    (case xk_NoText => k_is)
    (case xd_NoText => k_is)
    (case xa_NoText => k_is)
    (case xy_NoText => k_is)
    (case xm_NoText => k_is)
    (case kk_NoText_NoWeb => kit_is)
    (case kk_NoText_NotPlane => kit_is)
    (case kk_NoText_Alike => kit_is)
    (case kk_NoText_TooFew => kit_is)
    (case kk_NoText_NotFree => kit_is)
    (case kk_NoText_NotFilled => kit_is)
    (case kk_NoText_Odd => kit_is)
    (case kk_NoText_Bridge => kit_is)
    (case kk_NoText_Shared => kit_is)
    (case kk_NoText_TooMany => kit_is)
    (case kk_NoText_TooSmall => kit_is)
    (case kk_NoText_NoText => kit_is)
    (case kk_NoText_NoCorner => kit_is)
    (case kk_NoText_NoRing => kit_is)
    (case kk_NoText_MapError => kit_is)
    (case kv_NoText => kit_is)
    (case xx_NoText => k_exc)
    (case xc_NoText => k_is)
    (case xs_NoCorner => k_is)
    (case xg_NoCorner => k_is)
    (case xk_NoCorner => k_is)
    (case xd_NoCorner => k_is)
    (case xa_NoCorner => k_is)
    (case xy_NoCorner => k_is)
    (case xm_NoCorner => k_is)
    (case kk_NoCorner_NoWeb => kit_is)
    (case kk_NoCorner_NotPlane => kit_is)
    (case kk_NoCorner_Alike => kit_is)
    (case kk_NoCorner_TooFew => kit_is)
    (case kk_NoCorner_NotFree => kit_is)
    (case kk_NoCorner_NotFilled => kit_is)
    (case kk_NoCorner_Odd => kit_is)
    (case kk_NoCorner_Bridge => kit_is)
    (case kk_NoCorner_Shared => kit_is)
    (case kk_NoCorner_TooMany => kit_is)
    (case kk_NoCorner_TooSmall => kit_is)
    (case kk_NoCorner_NoText => kit_is)
    (case kk_NoCorner_NoCorner => kit_is)
    (case kk_NoCorner_NoRing => kit_is)
    (case kk_NoCorner_MapError => kit_is)
    (case kv_NoCorner => kit_is)
    (case xx_NoCorner => k_exc)
    (case xc_NoCorner => k_is)
    (case xs_NoRing => k_is)
    (case xg_NoRing => k_is)
    (case xk_NoRing => k_is)
    (case xd_NoRing => k_is)
    (case xa_NoRing => k_is)
    (case xy_NoRing => k_is)
    (case xm_NoRing => k_is)
    (case kk_NoRing_NoWeb => kit_is)
    (case kk_NoRing_NotPlane => kit_is)
    (case kk_NoRing_Alike => kit_is)
    (case kk_NoRing_TooFew => kit_is)
    (case kk_NoRing_NotFree => kit_is)
    (case kk_NoRing_NotFilled => kit_is)
    (case kk_NoRing_Odd => kit_is)
    (case kk_NoRing_Bridge => kit_is)
    (case kk_NoRing_Shared => kit_is)
    (case kk_NoRing_TooMany => kit_is)
    (case kk_NoRing_TooSmall => kit_is)
    (case kk_NoRing_NoText => kit_is)
    (case kk_NoRing_NoCorner => kit_is)
    (case kk_NoRing_NoRing => kit_is)
    (case kk_NoRing_MapError => kit_is)
    (case kv_NoRing => kit_is)
    (case xx_NoRing => k_exc)
    (case xc_NoRing => k_is)
    (case ox_NoWeb => k_is)
    (case or_NoWeb => rfl)
    (case os_NoWeb => k_is)
    (case xc_NoWeb => k_is)
    (case ot_NoWeb => k_is)
    (case of_NoWeb_fault => k_is)
    (case ox_NotPlane => k_is)
    (case or_NotPlane => rfl)
    (case os_NotPlane => k_is)
    (case xc_NotPlane => k_is)
    (case ot_NotPlane => k_is)
    (case of_NotPlane_counted => k_is)
    (case ox_Alike => k_is)
    (case or_Alike => rfl)
    (case os_Alike => k_is)
    (case xc_Alike => k_is)
    (case ot_Alike => k_is)
    (case of_Alike_one => k_is)
    (case of_Alike_other => k_is)
    (case ox_TooFew => k_is)
    (case or_TooFew => rfl)
    (case os_TooFew => k_is)
    (case xc_TooFew => k_is)
    (case ot_TooFew => k_is)
    (case of_TooFew_point => k_is)
    (case ox_NotFree => k_is)
    (case or_NotFree => rfl)
    (case os_NotFree => k_is)
    (case xc_NotFree => k_is)
    (case ot_NotFree => k_is)
    (case of_NotFree_point => k_is)
    (case ox_NotFilled => k_is)
    (case or_NotFilled => rfl)
    (case os_NotFilled => k_is)
    (case xc_NotFilled => k_is)
    (case ot_NotFilled => k_is)
    (case of_NotFilled_land => k_is)
    (case ox_Odd => k_is)
    (case or_Odd => rfl)
    (case os_Odd => k_is)
    (case xc_Odd => k_is)
    (case ot_Odd => k_is)
    (case of_Odd_point => k_is)
    (case ox_Bridge => k_is)
    (case or_Bridge => rfl)
    (case os_Bridge => k_is)
    (case xc_Bridge => k_is)
    (case ot_Bridge => k_is)
    (case of_Bridge_tie => k_is)
    (case ox_Shared => k_is)
    (case or_Shared => rfl)
    (case os_Shared => k_is)
    (case xc_Shared => k_is)
    (case ot_Shared => k_is)
    (case of_Shared_one => k_is)
    (case of_Shared_other => k_is)
    (case bi_s => k_is)
    (case bi_r => k_is)
    (case bi_f => k_is)

