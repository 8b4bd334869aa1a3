import PyProof.Rows.All
import Wide.All
import OpenK.AllK
import Wide.FinOn
import HandS.ForMost
import HandS.HeadHook2
import HandS.Flow
import HandS.Defaults
import HandS.WordsExc
import HandS.Comp
import HandS.IsInst
import HandS.StrMore
import PyProof.ReprRoads
import KE.KSuper
import HandS.Property
import HandS.HeadEnd
import PyProof.CallFns
import HandS.Strs
import HandS.Style
import KE.DataMinMax
import PyProof.ListOps
import PyProof.Rows.CallKwBuiltin
import HandS.Dict
import HandS.More
import HandS.Head2
import HandS.ReplaceLit
import HandS.ReplaceDef
import HandS.Iter
import HandS.TryOnly
import KE.KRevSl
import HandS.SetTxt0
import HandS.Set
import PyProof.Rows.SortStr
import HandS.SetFor
import HandS.Lambda
import HandS.EndTab
import HandS.ExcInit
import KE.KExcSuper
import HandS.ExcIs
import HandS.ExcField
import PyProof.StrBlock2
import KE.KExcIs
import PyProof.InstNe
import HandS.MakeKwOnly
import KE.KExcInit
import HandS.ExcValue
import HandS.Zip
import PyProof.StrLawsIn
import PyProof.StrLaws
import PySem.Challenge.RW_linestream_k36_errors_and_limits
import KE.KStateDown
import HandS.Head0
import HandS.Head1
set_option Elab.async false
set_option linter.all false
set_option maxRecDepth 100000
set_option maxHeartbeats 2000000
/-! Lx: plain data above the hand layer. A value with what it reaches is a datum D; a def's body is mirrored as a
wp over data alone, the heap hidden: F is the frozen part of the heap, pn the pen's dict, n the draws that are left. -/
namespace Lx
open PySem L2

inductive D where
  | non | bl (b : Bool) | int (i : Int) | str (x : Str)
  | lst (xs : List D) | tup (xs : List D) | obj (c : Str) (fs : List (Str × D)) | pen | sct (ns : List Int) | adr (a : Addr)

/-- an exception as data -/
structure Xn where
  cls : Str
  fs : List (Str × D)

structure W (A : Type) where
  wp : Nat → (Nat → A → Prop) → (Nat → Xn → Prop) → Prop
  mono : ∀ {n : Nat} {Q R : Nat → A → Prop} {E G : Nat → Xn → Prop}, (∀ m a, Q m a → R m a) → (∀ m x, E m x → G m x) → wp n Q E → wp n R G

namespace W
variable {A B : Type}
@[reducible] def ret (a : A) : W A := ⟨fun n Q _ => Q n a, fun h _ p => h _ _ p⟩
@[reducible] def bind (m : W A) (f : A → W B) : W B :=
  ⟨fun n Q E => m.wp n (fun k a => (f a).wp k Q E) E, fun h g p => m.mono (fun _ a q => (f a).mono h g q) g p⟩
@[reducible] def stuck : W A := ⟨fun _ _ _ => False, fun _ _ p => p⟩
@[reducible] def need (c : Prop) (m : W A) : W A := ⟨fun n Q E => c ∧ m.wp n Q E, fun h g p => ⟨p.1, m.mono h g p.2⟩⟩
/-- any a of which P holds, for c draws -/
@[reducible] def any (c : Nat) (P : A → Prop) : W A := ⟨fun n Q _ => ∃ k, n = k + c ∧ ∀ a, P a → Q k a, fun h _ ⟨k, e, p⟩ => ⟨k, e, fun a q => h _ _ (p a q)⟩⟩
@[reducible] def raise (x : Xn) : W A := ⟨fun n _ E => E n x, fun _ g p => g _ _ p⟩
end W

mutual
inductive Rep (K : PySem.W.Frag) (pn : Addr) (F : Hp) : V → D → Prop
  | non : Rep K pn F .non .non
  | bl (b : Bool) : Rep K pn F (.bl b) (.bl b)
  | int (i : Int) : Rep K pn F (.int i) (.int i)
  | str (x : Str) : Rep K pn F (.str x) (.str x)
  | lst {a : Addr} {vs : List V} {ds : List D} : F a = some (.lst vs) → RepL K pn F vs ds → Rep K pn F (.ref a) (.lst ds)
  | tup {a : Addr} {vs : List V} {ds : List D} : SqT K F a vs → RepL K pn F vs ds → Rep K pn F (.ref a) (.tup ds)
  | obj {a dx : Addr} {c : Str} {fs : List (Str × V)} {gs : List (Str × D)} : F a = some (.ins (He.ga K c) dx fs) → Cls K (He.ga K c) → (∀ x ∈ gs.map (·.1), NoAttr K (He.ga K c) x) → RepF K pn F fs gs → Rep K pn F (.ref a) (.obj c gs)
  | pen : Rep K pn F (.ref pn) .pen
  | adr (a : Addr) : Rep K pn F (.ref a) (.adr a)
  | sct {a : Addr} {ns : List Int} : SqL K F a (ns.map V.int) → Rep K pn F (.ref a) (.sct ns)
inductive RepL (K : PySem.W.Frag) (pn : Addr) (F : Hp) : List V → List D → Prop
  | nil : RepL K pn F [] []
  | cons {v : V} {vs : List V} {d : D} {ds : List D} : Rep K pn F v d → RepL K pn F vs ds → RepL K pn F (v :: vs) (d :: ds)
inductive RepF (K : PySem.W.Frag) (pn : Addr) (F : Hp) : List (Str × V) → List (Str × D) → Prop
  | nil : RepF K pn F [] []
  | cons {x : Str} {v : V} {vs : List (Str × V)} {d : D} {ds : List (Str × D)} : Rep K pn F v d → RepF K pn F vs ds → RepF K pn F ((x, v) :: vs) ((x, d) :: ds)
end

/-- F lies in G -/
def Le (F G : Hp) : Prop := ∀ a o, F a = some o → G a = some o
theorem Le.refl (F : Hp) : Le F F := fun _ _ h => h
theorem Le.trans {F G J : Hp} (a : Le F G) (b : Le G J) : Le F J := fun c o h => b c o (a c o h)
theorem Le.up {F : Hp} {p : Addr} {o : HO} (h : F p = none) : Le F (upd F p o) := fun a u e => by rw [upd_ne (ne_of_none e h)]; exact e
theorem Le.sqL {K : PySem.W.Frag} {F G : Hp} {a : Addr} {xs : List V} (e : Le F G) (h : SqL K F a xs) : SqL K G a xs := by
  rcases h with (h | ⟨o, h⟩) | h
  · exact .inl (.inl (e _ _ h))
  · exact .inl (.inr ⟨o, e _ _ h⟩)
  · exact .inr h
theorem Le.sqT {K : PySem.W.Frag} {F G : Hp} {a : Addr} {xs : List V} (e : Le F G) (h : SqT K F a xs) : SqT K G a xs := by
  rcases h with (h | ⟨o, h⟩) | h
  · exact .inl (.inl (e _ _ h))
  · exact .inl (.inr ⟨o, e _ _ h⟩)
  · exact .inr h

section
variable {K : PySem.W.Frag} {pn : Addr} {F G : Hp}
mutual
theorem Rep.up (e : Le F G) : ∀ {v : V} {d : D}, Rep K pn F v d → Rep K pn G v d
  | _, _, .non => .non
  | _, _, .bl b => .bl b
  | _, _, .int i => .int i
  | _, _, .str x => .str x
  | _, _, .lst h r => .lst (e _ _ h) (RepL.up e r)
  | _, _, .tup h r => .tup (e.sqT h) (RepL.up e r)
  | _, _, .obj h c n r => .obj (e _ _ h) c n (RepF.up e r)
  | _, _, .adr a => .adr a
  | _, _, .pen => .pen
  | _, _, .sct h => .sct (e.sqL h)
theorem RepL.up (e : Le F G) : ∀ {vs : List V} {ds : List D}, RepL K pn F vs ds → RepL K pn G vs ds
  | _, _, .nil => .nil
  | _, _, .cons h r => .cons (Rep.up e h) (RepL.up e r)
theorem RepF.up (e : Le F G) : ∀ {vs : List (Str × V)} {ds : List (Str × D)}, RepF K pn F vs ds → RepF K pn G vs ds
  | _, _, .nil => .nil
  | _, _, .cons h r => .cons (Rep.up e h) (RepF.up e r)
end
theorem RepL.len : ∀ {vs : List V} {ds : List D}, RepL K pn F vs ds → vs.length = ds.length
  | _, _, .nil => rfl
  | _, _, .cons _ r => congrArg (· + 1) r.len
theorem RepL.get : ∀ {vs : List V} {ds : List D} {i : Nat} {d : D}, RepL K pn F vs ds → ds[i]? = some d → ∃ v, vs[i]? = some v ∧ Rep K pn F v d
  | _, _, _, _, .nil, e => by simp at e
  | _, _, 0, _, .cons h _, e => by simp at e; subst e; exact ⟨_, rfl, h⟩
  | _, _, i + 1, d, .cons _ r, e => by
    obtain ⟨v, h1, h2⟩ := RepL.get (i := i) (d := d) r (by simpa using e)
    exact ⟨v, by simpa using h1, h2⟩
theorem RepL.getV : ∀ {vs : List V} {ds : List D} {i : Nat} {v : V}, RepL K pn F vs ds → vs[i]? = some v → ∃ d, ds[i]? = some d ∧ Rep K pn F v d
  | _, _, _, _, .nil, e => by simp at e
  | _, _, 0, _, .cons h _, e => by simp at e; subst e; exact ⟨_, rfl, h⟩
  | _, _, i + 1, v, .cons _ r, e => by
    obtain ⟨d, h1, h2⟩ := RepL.getV (i := i) (v := v) r (by simpa using e)
    exact ⟨d, by simpa using h1, h2⟩
theorem RepL.app : ∀ {vs ws : List V} {ds es : List D}, RepL K pn F vs ds → RepL K pn F ws es → RepL K pn F (vs ++ ws) (ds ++ es)
  | _, _, _, _, .nil, s => s
  | _, _, _, _, .cons h r, s => .cons h (r.app s)
theorem RepL.take : ∀ {vs : List V} {ds : List D} (n : Nat), RepL K pn F vs ds → RepL K pn F (vs.take n) (ds.take n)
  | _, _, 0, _ => .nil
  | _, _, _ + 1, .nil => .nil
  | _, _, n + 1, .cons h r => .cons h (RepL.take n r)
theorem RepL.drop : ∀ {vs : List V} {ds : List D} (n : Nat), RepL K pn F vs ds → RepL K pn F (vs.drop n) (ds.drop n)
  | _, _, 0, r => r
  | _, _, _ + 1, .nil => .nil
  | _, _, n + 1, .cons _ r => RepL.drop n r
theorem RepF.look : ∀ {vs : List (Str × V)} {ds : List (Str × D)} {x : Str} {d : D}, RepF K pn F vs ds → ds.lookup x = some d → ∃ v, vs.lookup x = some v ∧ Rep K pn F v d
  | _, _, _, _, .nil, e => by simp at e
  | _, _, x, d, .cons (x := y) h r, e => by
    rw [List.lookup_cons] at e ⊢
    cases q : (x == y) with
    | true => rw [q] at e; cases e; exact ⟨_, rfl, h⟩
    | false => rw [q] at e; exact RepF.look r e
theorem RepF.noLook : ∀ {vs : List (Str × V)} {ds : List (Str × D)} {x : Str}, RepF K pn F vs ds → ds.lookup x = none → vs.lookup x = none
  | _, _, _, .nil, _ => rfl
  | _, _, x, .cons (x := y) h r, e => by
    rw [List.lookup_cons] at e ⊢
    cases q : (x == y) with
    | true => rw [q] at e; cases e
    | false => rw [q] at e; exact RepF.noLook r e
end

/-! ### the pen: a dict with the cells, the turn and what is left -/
def penKvs (l : Addr) (t lf : Int) : List (Key × V) := [(Sum.inr "cells", .ref l), (Sum.inr "turn", .int t), (Sum.inr "left", .int lf)]
/-- what the pen holds, with n draws left -/
def PenOk (K : PySem.W.Frag) (pn : Addr) (F H : Hp) (n : Nat) : Prop :=
  ∃ (l : Addr) (cs : List Int) (t lf : Int), H pn = some (.dK (penKvs l t lf)) ∧ SqL K F l (cs.map V.int) ∧ cs.length ≤ 63 ∧ 0 ≤ t ∧ t + n ≤ 2 ^ 60 ∧ 0 ≤ lf

structure Ok (K : PySem.W.Frag) (pn : Addr) (F H : Hp) (n : Nat) : Prop where
  fro : Le F H
  fpn : F pn = none
  pen : PenOk K pn F H n
theorem Ok.hpn {K : PySem.W.Frag} {pn : Addr} {F H : Hp} {n : Nat} (o : Ok K pn F H n) : ∃ u, H pn = some u := let ⟨_, _, _, _, h, _⟩ := o.pen; ⟨_, h⟩
theorem Ok.ne {K : PySem.W.Frag} {pn p : Addr} {F H : Hp} {n : Nat} (o : Ok K pn F H n) (h : H p = none) : p ≠ pn := by
  rintro rfl
  obtain ⟨u, e⟩ := o.hpn
  rw [h] at e; cases e
theorem Ok.free {K : PySem.W.Frag} {pn p : Addr} {F H : Hp} {n : Nat} (o : Ok K pn F H n) (h : H p = none) : F p = none := by
  cases e : F p with
  | none => rfl
  | some u => rw [o.fro _ _ e] at h; cases h
/-- from (F, H) on: all but the pen is kept, F grows by new objects alone -/
structure Go (pn : Addr) (F H F' H' : Hp) : Prop where
  keep : ∀ a o, a ≠ pn → H a = some o → H' a = some o
  sub : Le F F'
  new : ∀ a o, F' a = some o → F a = none → H a = none
theorem Go.refl (pn : Addr) (F H : Hp) : Go pn F H F H := ⟨fun _ _ _ h => h, Le.refl F, fun a o h n => by rw [n] at h; cases h⟩
theorem Go.trans {pn : Addr} {F H F1 H1 F2 H2 : Hp} (a : Go pn F H F1 H1) (b : Go pn F1 H1 F2 H2) (hp : F2 pn = none) : Go pn F H F2 H2 where
  keep := fun c o ne h => b.keep c o ne (a.keep c o ne h)
  sub := a.sub.trans b.sub
  new := fun c o h n => by
    cases e : F1 c with
    | some u => exact a.new c u e n
    | none =>
      have h1 := b.new c o h e
      have ne : c ≠ pn := by rintro rfl; rw [hp] at h; cases h
      cases q : H c with
      | none => rfl
      | some u => rw [a.keep c u ne q] at h1; cases h1
theorem PenOk.le {K : PySem.W.Frag} {pn : Addr} {F H F' H' : Hp} {n : Nat} (p : PenOk K pn F H n) (e : Le F F') (h : H' pn = H pn) : PenOk K pn F' H' n := by
  obtain ⟨l, cs, t, lf, h1, h2, r⟩ := p
  exact ⟨l, cs, t, lf, h.trans h1, e.sqL h2, r⟩
theorem PenOk.less {K : PySem.W.Frag} {pn : Addr} {F H : Hp} {n m : Nat} (p : PenOk K pn F H n) (e : m ≤ n) : PenOk K pn F H m := by
  obtain ⟨l, cs, t, lf, h1, h2, h3, h4, h5, r⟩ := p
  exact ⟨l, cs, t, lf, h1, h2, h3, h4, by omega, r⟩
/-- a new object, frozen at once -/
theorem Ok.lay {K : PySem.W.Frag} {pn p : Addr} {F H : Hp} {n : Nat} {o : HO} (k : Ok K pn F H n) (h : H p = none) : Ok K pn (upd F p o) (upd H p o) n ∧ Go pn F H (upd F p o) (upd H p o) := by
  have hp := k.ne h
  have hF := k.free h
  refine ⟨⟨fun a u e => ?_, ?_, k.pen.le (Le.up hF) (upd_ne hp.symm)⟩, fun a u _ e => ?_, Le.up hF, fun a u e n => ?_⟩
  · by_cases ha : a = p
    · subst ha; rw [upd_same] at e ⊢; exact e
    · rw [upd_ne ha] at e ⊢; exact k.fro a u e
  · rw [upd_ne hp.symm]; exact k.fpn
  · rw [upd_ne (ne_of_none e h)]; exact e
  · by_cases ha : a = p
    · subst ha; exact h
    · rw [upd_ne ha, n] at e; cases e
/-- a new object that stays one's own -/
theorem Ok.layO {K : PySem.W.Frag} {pn p : Addr} {F H : Hp} {n : Nat} {o : HO} (k : Ok K pn F H n) (h : H p = none) : Ok K pn F (upd H p o) n ∧ Go pn F H F (upd H p o) := by
  have hp := k.ne h
  refine ⟨⟨fun a u e => ?_, k.fpn, k.pen.le (Le.refl F) (upd_ne hp.symm)⟩, fun a u _ e => ?_, Le.refl F, fun a u e n => by rw [n] at e; cases e⟩
  · rw [upd_ne (ne_of_none (k.fro a u e) h)]; exact k.fro a u e
  · rw [upd_ne (ne_of_none e h)]; exact e

/-! ### slots -/
inductive Sl where
  | un | val (d : D) | own (xs : List D)
/-- what the slots hold: data of F; or a list of one's own, apart from F, made behind the entry's heap -/
structure Slo (K : PySem.W.Frag) (pn : Addr) (H0 F H : Hp) (σ : L2.St) (δ : List Sl) : Prop where
  len : σ.length = δ.length
  val : ∀ (i : Nat) (d : D), δ[i]? = some (Sl.val d) → ∃ v, σ[i]? = some (some v) ∧ Rep K pn F v d
  own : ∃ ow : Nat → Addr, (∀ (i : Nat) (xs : List D), δ[i]? = some (Sl.own xs) → ∃ vs, σ[i]? = some (some (.ref (ow i))) ∧ H (ow i) = some (.lst vs) ∧ RepL K pn F vs xs ∧ F (ow i) = none ∧ ow i ≠ pn ∧ H0 (ow i) = none) ∧
    ∀ (i j : Nat) (xs ys : List D), δ[i]? = some (Sl.own xs) → δ[j]? = some (Sl.own ys) → ow i = ow j → i = j
theorem Slo.go {K : PySem.W.Frag} {pn : Addr} {H0 F H F' H' : Hp} {σ : L2.St} {δ : List Sl} (s : Slo K pn H0 F H σ δ) (g : Go pn F H F' H') : Slo K pn H0 F' H' σ δ := by
  obtain ⟨ow, h1, h2⟩ := s.own
  refine ⟨s.len, fun i d e => let ⟨v, q, r⟩ := s.val i d e; ⟨v, q, r.up g.sub⟩, ow, fun i xs e => ?_, h2⟩
  obtain ⟨vs, a, b, c, d, e', f⟩ := h1 i xs e
  refine ⟨vs, a, g.keep _ _ e' b, c.up g.sub, ?_, e', f⟩
  cases q : F' (ow i) with
  | none => rfl
  | some u => rw [g.new _ _ q d] at b; cases b
theorem Slo.set {K : PySem.W.Frag} {pn : Addr} {H0 F H : Hp} {σ : L2.St} {δ : List Sl} {i : Nat} {v : V} {d : D} (s : Slo K pn H0 F H σ δ) (r : Rep K pn F v d) : Slo K pn H0 F H (σ.set i (some v)) (δ.set i (.val d)) := by
  obtain ⟨ow, h1, h2⟩ := s.own
  have neq : ∀ {j : Nat} {x : Sl}, (δ.set i (.val d))[j]? = some x → (∀ d', x ≠ Sl.val d') → j ≠ i ∧ δ[j]? = some x := fun {j x} e hx => by
    by_cases hj : j = i
    · subst hj
      rw [List.getElem?_set] at e
      split at e
      · split at e
        · cases e; exact absurd rfl (hx _)
        · cases e
      · exact absurd rfl ‹_›
    · rw [List.getElem?_set_ne (Ne.symm hj)] at e; exact ⟨hj, e⟩
  refine ⟨by simpa using s.len, fun j d' e => ?_, ow, fun j xs e => ?_, fun j k xs ys e e' => h2 j k xs ys (neq e (fun _ z => by cases z)).2 (neq e' (fun _ z => by cases z)).2⟩
  · by_cases hj : j = i
    · subst hj
      have hl : j < δ.length := by
        have := (List.getElem?_eq_some_iff.mp e).1
        simpa using this
      rw [List.getElem?_set_self hl] at e
      cases e
      exact ⟨v, List.getElem?_set_self (by rw [s.len]; exact hl), r⟩
    · rw [List.getElem?_set_ne (Ne.symm hj)] at e
      rw [List.getElem?_set_ne (Ne.symm hj)]
      exact s.val j d' e
  · obtain ⟨hj, e⟩ := neq e (fun _ z => by cases z)
    rw [List.getElem?_set_ne (Ne.symm hj)]
    exact h1 j xs e
/-- a slot forgotten (or set to what is not told) -/
theorem Slo.forget {K : PySem.W.Frag} {pn : Addr} {H0 F H : Hp} {σ : L2.St} {δ : List Sl} {i : Nat} {o : Option V} (s : Slo K pn H0 F H σ δ) : Slo K pn H0 F H (σ.set i o) (δ.set i .un) := by
  obtain ⟨ow, h1, h2⟩ := s.own
  have neq : ∀ {j : Nat} {x : Sl}, (δ.set i .un)[j]? = some x → x ≠ Sl.un → j ≠ i ∧ δ[j]? = some x := fun {j x} e hx => by
    by_cases hj : j = i
    · subst hj
      rw [List.getElem?_set] at e
      split at e
      · split at e
        · cases e; exact absurd rfl hx
        · cases e
      · exact absurd rfl ‹_›
    · rw [List.getElem?_set_ne (Ne.symm hj)] at e; exact ⟨hj, e⟩
  refine ⟨by simpa using s.len, fun j d' e => ?_, ow, fun j xs e => ?_, fun j k xs ys e e' => h2 j k xs ys (neq e (fun z => by cases z)).2 (neq e' (fun z => by cases z)).2⟩
  · obtain ⟨hj, e⟩ := neq e (fun z => by cases z)
    rw [List.getElem?_set_ne (Ne.symm hj)]
    exact s.val j d' e
  · obtain ⟨hj, e⟩ := neq e (fun z => by cases z)
    rw [List.getElem?_set_ne (Ne.symm hj)]
    exact h1 j xs e

/-! ### what a mirror says of a reading -/
/-- what is wanted behind an expression -/
abbrev Post (K : PySem.W.Frag) (pn : Addr) (F H : Hp) (Q : VK) : Nat → D → Prop := fun n d => ∀ v F' H', Go pn F H F' H' → Ok K pn F' H' n → Rep K pn F' v d → Q v H'
abbrev noX : Nat → Xn → Prop := fun _ _ => False
def LE (K : PySem.W.Frag) (te : TE) (f : List Sl → W D) : Prop := ∀ (pn : Addr) (H0 F H : Hp) (n : Nat) (σ : L2.St) (δ : List Sl) (Q : VK), Ok K pn F H n → Slo K pn H0 F H σ δ → (f δ).wp n (Post K pn F H Q) noX → te σ H Q
def LT (K : PySem.W.Frag) (tt : TT) (f : List Sl → W Bool) : Prop := ∀ (pn : Addr) (H0 F H : Hp) (n : Nat) (σ : L2.St) (δ : List Sl) (Q : Bool → Hp → Prop), Ok K pn F H n → Slo K pn H0 F H σ δ →
  (f δ).wp n (fun m b => ∀ F' H', Go pn F H F' H' → Ok K pn F' H' m → Q b H') noX → tt σ H Q
def LA (K : PySem.W.Frag) (ta : TA) (f : List Sl → W (List D)) : Prop := ∀ (pn : Addr) (H0 F H : Hp) (n : Nat) (σ : L2.St) (δ : List Sl) (Q : List V → Hp → Prop), Ok K pn F H n → Slo K pn H0 F H σ δ →
  (f δ).wp n (fun m ds => ∀ vs F' H', Go pn F H F' H' → Ok K pn F' H' m → RepL K pn F' vs ds → Q vs H') noX → ta σ H Q
/-- an operation on two values, on one, on many -/
def LO2 (K : PySem.W.Frag) (r : R2) (g : D → D → W D) : Prop := ∀ (pn : Addr) (F H : Hp) (n : Nat) (v w : V) (x y : D) (Q : VK), Ok K pn F H n → Rep K pn F v x → Rep K pn F w y → (g x y).wp n (Post K pn F H Q) noX → r v w H Q
def LO1 (K : PySem.W.Frag) (r : V → Hp → VK → Prop) (g : D → W D) : Prop := ∀ (pn : Addr) (F H : Hp) (n : Nat) (v : V) (x : D) (Q : VK), Ok K pn F H n → Rep K pn F v x → (g x).wp n (Post K pn F H Q) noX → r v H Q
def LOn (K : PySem.W.Frag) (r : List V → Hp → VK → Prop) (g : List D → W D) : Prop := ∀ (pn : Addr) (F H : Hp) (n : Nat) (vs : List V) (xs : List D) (Q : VK), Ok K pn F H n → RepL K pn F vs xs → (g xs).wp n (Post K pn F H Q) noX → r vs H Q

inductive Out where
  | nx (δ : List Sl) | rt (d : D) | bk (δ : List Sl) | ct (δ : List Sl)
/-- what is wanted behind a statement that begins at F: from the entry (F0, H0) on -/
@[reducible] def PostS (K : PySem.W.Frag) (pn : Addr) (F0 H0 F : Hp) (E : Ends) : Nat → Out → Prop := fun n o => match o with
  | .nx δ => ∀ σ F1 H, Le F F1 → Go pn F0 H0 F1 H → Ok K pn F1 H n → Slo K pn H0 F1 H σ δ → E.nx σ H
  | .rt d => ∀ v F1 H, Go pn F0 H0 F1 H → Ok K pn F1 H n → Rep K pn F1 v d → E.rt v H
  | .bk δ => ∀ σ F1 H, Le F F1 → Go pn F0 H0 F1 H → Ok K pn F1 H n → Slo K pn H0 F1 H σ δ → E.bk σ H
  | .ct δ => ∀ σ F1 H, Le F F1 → Go pn F0 H0 F1 H → Ok K pn F1 H n → Slo K pn H0 F1 H σ δ → E.ct σ H
def LS (K : PySem.W.Frag) (ts : TS) (g : List Sl → W Out) : Prop := ∀ (pn : Addr) (F0 H0 F H : Hp) (n : Nat) (σ : L2.St) (δ : List Sl) (E : Ends), Go pn F0 H0 F H → Ok K pn F H n → Slo K pn H0 F H σ δ →
  (g δ).wp n (PostS K pn F0 H0 F E) noX → ts E σ H
theorem PostS.of {K : PySem.W.Frag} {pn : Addr} {F0 H0 F F1 : Hp} {E : Ends} (l : Le F F1) {n : Nat} {o : Out} (p : PostS K pn F0 H0 F E n o) : PostS K pn F0 H0 F1 E n o := by
  cases o with
  | nx δ => exact fun σ F2 H e => p σ F2 H (l.trans e)
  | rt d => exact p
  | bk δ => exact fun σ F2 H e => p σ F2 H (l.trans e)
  | ct δ => exact fun σ F2 H e => p σ F2 H (l.trans e)

theorem Post.of {K : PySem.W.Frag} {pn : Addr} {F H F1 H1 : Hp} {Q : VK} (g : Go pn F H F1 H1) {n : Nat} {d : D} (p : Post K pn F H Q n d) : Post K pn F1 H1 Q n d := fun v F2 H2 g2 o2 r => p v F2 H2 (g.trans g2 o2.fpn) o2 r

/-! ### expressions -/
@[reducible] def dVar (i : Nat) : List Sl → W D := fun δ => match δ[i]? with
  | some (.val d) => W.ret d
  | _ => W.stuck
@[reducible] def dC (d : D) : List Sl → W D := fun _ => W.ret d
@[reducible] def dOp2 (g : D → D → W D) (fa fb : List Sl → W D) : List Sl → W D := fun δ => (fa δ).bind fun x => (fb δ).bind fun y => g x y
@[reducible] def dOp1 (g : D → W D) (fa : List Sl → W D) : List Sl → W D := fun δ => (fa δ).bind g
@[reducible] def dOpn (g : List D → W D) (fa : List Sl → W (List D)) : List Sl → W D := fun δ => (fa δ).bind g
@[reducible] def dNil : List Sl → W (List D) := fun _ => W.ret []
@[reducible] def dCons (fa : List Sl → W D) (fr : List Sl → W (List D)) : List Sl → W (List D) := fun δ => (fa δ).bind fun x => (fr δ).bind fun xs => W.ret (x :: xs)
section
variable {K : PySem.W.Frag} {ta tb : TE} {fa fb : List Sl → W D}
theorem le_var {i : Nat} : LE K (tVar i) (dVar i) := fun pn H0 F H n σ δ Q o s h => by
  unfold dVar at h
  cases e : δ[i]? with
  | none => rw [e] at h; exact h.elim
  | some x =>
    rw [e] at h
    cases x with
    | un => exact h.elim
    | own xs => exact h.elim
    | val d =>
      obtain ⟨v, q, r⟩ := s.val i d e
      exact ⟨v, q, h v F H (Go.refl ..) o r⟩
theorem le_c {v : V} {d : D} (h : ∀ pn F, Rep K pn F v d) : LE K (tC v) (dC d) := fun pn H0 F H n σ δ Q o s q => q v F H (Go.refl ..) o (h pn F)
theorem le_int {i : Int} : LE K (tC (.int i)) (dC (.int i)) := le_c fun _ _ => .int i
theorem le_str {x : Str} : LE K (tC (.str x)) (dC (.str x)) := le_c fun _ _ => .str x
theorem le_bl {b : Bool} : LE K (tC (.bl b)) (dC (.bl b)) := le_c fun _ _ => .bl b
theorem le_non : LE K (tC .non) (dC .non) := le_c fun _ _ => .non
theorem le_op2 {r : R2} {g : D → D → W D} (hr : LO2 K r g) (ha : LE K ta fa) (hb : LE K tb fb) : LE K (tOp r ta tb) (dOp2 g fa fb) := fun pn H0 F H n σ δ Q o s h => by
  refine ha pn H0 F H n σ δ _ o s ((fa δ).mono (fun m x q => ?_) (fun _ _ z => z) h)
  intro v F1 H1 g1 o1 r1
  refine hb pn H0 F1 H1 m σ δ _ o1 (s.go g1) ((fb δ).mono (fun m2 y q2 => ?_) (fun _ _ z => z) q)
  intro w F2 H2 g2 o2 r2
  exact hr pn F2 H2 m2 v w x y Q o2 (r1.up g2.sub) r2 ((g x y).mono (fun _ _ p => (Post.of g1 p).of g2) (fun _ _ z => z) q2)
theorem le_op1 {r : V → Hp → VK → Prop} {g : D → W D} (hr : LO1 K r g) (ha : LE K ta fa) : LE K (tUn r ta) (dOp1 g fa) := fun pn H0 F H n σ δ Q o s h => by
  refine ha pn H0 F H n σ δ _ o s ((fa δ).mono (fun m x q => ?_) (fun _ _ z => z) h)
  intro v F1 H1 g1 o1 r1
  exact hr pn F1 H1 m v x Q o1 r1 ((g x).mono (fun _ _ p => Post.of g1 p) (fun _ _ z => z) q)
theorem la_nil : LA K tNil dNil := fun pn H0 F H n σ δ Q o s h => h [] F H (Go.refl ..) o .nil
theorem la_cons {tr : TA} {fr : List Sl → W (List D)} (ha : LE K ta fa) (hr : LA K tr fr) : LA K (tCons ta tr) (dCons fa fr) := fun pn H0 F H n σ δ Q o s h => by
  refine ha pn H0 F H n σ δ _ o s ((fa δ).mono (fun m x q => ?_) (fun _ _ z => z) h)
  intro v F1 H1 g1 o1 r1
  refine hr pn H0 F1 H1 m σ δ _ o1 (s.go g1) ((fr δ).mono (fun m2 ys q2 => ?_) (fun _ _ z => z) q)
  intro ws F2 H2 g2 o2 r2
  exact q2 (v :: ws) F2 H2 (g1.trans g2 o2.fpn) o2 (.cons (r1.up g2.sub) r2)
theorem le_opn {t : TA} {f : List Sl → W (List D)} {r : List V → Hp → VK → Prop} {g : List D → W D} (hr : LOn K r g) (ha : LA K t f) : LE K (tCB r t) (dOpn g f) := fun pn H0 F H n σ δ Q o s h => by
  refine ha pn H0 F H n σ δ _ o s ((f δ).mono (fun m x q => ?_) (fun _ _ z => z) h)
  intro vs F1 H1 g1 o1 r1
  exact hr pn F1 H1 m vs x Q o1 r1 ((g x).mono (fun _ _ p => Post.of g1 p) (fun _ _ z => z) q)
/-! displays -/
@[reducible] def dTup (f : List Sl → W (List D)) : List Sl → W D := fun δ => (f δ).bind fun xs => W.need (xs.length ≤ sizeLine) (W.ret (.tup xs))
@[reducible] def dLst (f : List Sl → W (List D)) : List Sl → W D := fun δ => (f δ).bind fun xs => W.need (xs.length ≤ sizeLine) (W.ret (.lst xs))
theorem le_tup {t : TA} {f : List Sl → W (List D)} (ha : LA K t f) : LE K (tTup t) (dTup f) := fun pn H0 F H n σ δ Q o s h => by
  refine ha pn H0 F H n σ δ _ o s ((f δ).mono (fun m x q => ?_) (fun _ _ z => z) h)
  intro vs F1 H1 g1 o1 r1
  refine ⟨by rw [r1.len]; exact q.1, fun p hp => ?_⟩
  obtain ⟨o2, g2⟩ := o1.lay (o := .tup vs) hp
  exact q.2 (.ref p) _ _ (g1.trans g2 o2.fpn) o2 (.tup (SqT.of upd_same) (r1.up g2.sub))
theorem le_lst {t : TA} {f : List Sl → W (List D)} (ha : LA K t f) : LE K (tLst t) (dLst f) := fun pn H0 F H n σ δ Q o s h => by
  refine ha pn H0 F H n σ δ _ o s ((f δ).mono (fun m x q => ?_) (fun _ _ z => z) h)
  intro vs F1 H1 g1 o1 r1
  refine ⟨by rw [r1.len]; exact q.1, fun p hp => ?_⟩
  obtain ⟨o2, g2⟩ := o1.lay (o := .lst vs) hp
  exact q.2 (.ref p) _ _ (g1.trans g2 o2.fpn) o2 (.lst upd_same (r1.up g2.sub))
end
end Lx
set_option Elab.async false
set_option linter.all false
set_option maxRecDepth 100000
set_option maxHeartbeats 2000000
/-! Lx2: tests, statements, loops, comprehensions, calls. -/
namespace Lx
open PySem L2

/-! ### tests -/
/-- a datum's truth -/
@[reducible] def truD : D → W Bool
  | .non => W.ret false
  | .bl b => W.ret b
  | .int i => W.ret (i != 0)
  | .str y => W.need (y.length ≤ sizeLine) (W.ret ((y.length : Int) != 0))
  | .lst xs => W.ret (!xs.isEmpty)
  | .tup xs => W.ret (!xs.isEmpty)
  | _ => W.stuck
@[reducible] def blD : D → W Bool
  | .bl b => W.ret b
  | _ => W.stuck
theorem isE {K : PySem.W.Frag} {pn : Addr} {F : Hp} {vs : List V} {ds : List D} (r : RepL K pn F vs ds) : vs.isEmpty = ds.isEmpty := by cases r <;> rfl
section
variable {K : PySem.W.Frag} {ta tb : TE} {fa fb : List Sl → W D} {tt tu : TT} {ft fu : List Sl → W Bool}
theorem truV_of {pn : Addr} {F H : Hp} {n : Nat} {v : V} {d : D} {Q : Nat → Bool → Prop} (o : Ok K pn F H n) (r : Rep K pn F v d) (h : (truD d).wp n Q noX) : ∃ k, TruV K v H k ∧ Q n k := by
  cases r with
  | non => exact ⟨_, rfl, h⟩
  | bl b => exact ⟨_, rfl, h⟩
  | int i => exact ⟨_, rfl, h⟩
  | str x => exact ⟨_, ⟨h.1, rfl⟩, h.2⟩
  | lst a b => exact ⟨_, .inl ⟨_, SqL.of (o.fro _ _ a), rfl⟩, by rw [isE b]; exact h⟩
  | tup a b => exact ⟨_, .inr (.inl ⟨_, o.fro.sqT a, rfl⟩), by rw [isE b]; exact h⟩
  | obj a _ _ b => exact h.elim
  | adr a => exact h.elim
  | pen => exact h.elim
  | sct a => exact h.elim
@[reducible] def dTru (fa : List Sl → W D) : List Sl → W Bool := fun δ => (fa δ).bind truD
@[reducible] def dTest (fa : List Sl → W D) : List Sl → W Bool := fun δ => (fa δ).bind blD
@[reducible] def dAnd (a b : List Sl → W Bool) : List Sl → W Bool := fun δ => (a δ).bind fun c => match c with | true => b δ | false => W.ret false
@[reducible] def dOr (a b : List Sl → W Bool) : List Sl → W Bool := fun δ => (a δ).bind fun c => match c with | true => W.ret true | false => b δ
@[reducible] def dNot (a : List Sl → W Bool) : List Sl → W Bool := fun δ => (a δ).bind fun c => W.ret (!c)
theorem lt_tru (ha : LE K ta fa) : LT K (fun σ H Q => ta σ H fun x H1 => ∃ k, TruV K x H1 k ∧ Q k H1) (dTru fa) := fun pn H0 F H n σ δ Q o s h => by
  refine ha pn H0 F H n σ δ _ o s ((fa δ).mono (fun m x q => ?_) (fun _ _ z => z) h)
  intro v F1 H1 g1 o1 r1
  obtain ⟨k, t, q⟩ := truV_of o1 r1 q
  exact ⟨k, t, q F1 H1 g1 o1⟩
theorem lt_test (ha : LE K ta fa) : LT K (tTest ta) (dTest fa) := fun pn H0 F H n σ δ Q o s h => by
  refine ha pn H0 F H n σ δ _ o s ((fa δ).mono (fun m x q => ?_) (fun _ _ z => z) h)
  intro v F1 H1 g1 o1 r1
  cases r1 with
  | bl b => exact ⟨b, rfl, q F1 H1 g1 o1⟩
  | _ => exact q.elim
theorem lt_and (ha : LT K tt ft) (hb : LT K tu fu) : LT K (tAnd tt tu) (dAnd ft fu) := fun pn H0 F H n σ δ Q o s h => by
  refine ha pn H0 F H n σ δ _ o s ((ft δ).mono (fun m c q => ?_) (fun _ _ z => z) h)
  intro F1 H1 g1 o1
  cases c with
  | false => exact iteF (q F1 H1 g1 o1)
  | true => exact iteT (hb pn H0 F1 H1 m σ δ _ o1 (s.go g1) ((fu δ).mono (fun m2 c p F2 H2 g2 o2 => p F2 H2 (g1.trans g2 o2.fpn) o2) (fun _ _ z => z) q))
theorem lt_or (ha : LT K tt ft) (hb : LT K tu fu) : LT K (tOr tt tu) (dOr ft fu) := fun pn H0 F H n σ δ Q o s h => by
  refine ha pn H0 F H n σ δ _ o s ((ft δ).mono (fun m c q => ?_) (fun _ _ z => z) h)
  intro F1 H1 g1 o1
  cases c with
  | true => exact iteT (q F1 H1 g1 o1)
  | false => exact iteF (hb pn H0 F1 H1 m σ δ _ o1 (s.go g1) ((fu δ).mono (fun m2 c p F2 H2 g2 o2 => p F2 H2 (g1.trans g2 o2.fpn) o2) (fun _ _ z => z) q))
theorem lt_not (ha : LT K tt ft) : LT K (tNot tt) (dNot ft) := fun pn H0 F H n σ δ Q o s h =>
  ha pn H0 F H n σ δ _ o s ((ft δ).mono (fun m c q F1 H1 g1 o1 => q F1 H1 g1 o1) (fun _ _ z => z) h)
/-! values by truth: a and b, a or b, not a, a if t else b -/
@[reducible] def dAndV (fa fb : List Sl → W D) : List Sl → W D := fun δ => (fa δ).bind fun x => (truD x).bind fun c => match c with | true => fb δ | false => W.ret x
@[reducible] def dOrV (fa fb : List Sl → W D) : List Sl → W D := fun δ => (fa δ).bind fun x => (truD x).bind fun c => match c with | true => W.ret x | false => fb δ
@[reducible] def dNotV (fa : List Sl → W D) : List Sl → W D := fun δ => (fa δ).bind fun x => (truD x).bind fun c => W.ret (.bl (!c))
@[reducible] def dIfE (ft : List Sl → W Bool) (fa fb : List Sl → W D) : List Sl → W D := fun δ => (ft δ).bind fun c => match c with | true => fa δ | false => fb δ
theorem le_and (ha : LE K ta fa) (hb : LE K tb fb) : LE K (tAndT K ta tb) (dAndV fa fb) := fun pn H0 F H n σ δ Q o s h => by
  refine ha pn H0 F H n σ δ _ o s ((fa δ).mono (fun m x q => ?_) (fun _ _ z => z) h)
  intro v F1 H1 g1 o1 r1
  obtain ⟨k, t, q⟩ := truV_of o1 r1 q
  refine ⟨k, t, ?_⟩
  cases k with
  | true => exact iteT (hb pn H0 F1 H1 m σ δ _ o1 (s.go g1) ((fb δ).mono (fun _ _ p => Post.of g1 p) (fun _ _ z => z) q))
  | false => exact iteF (q v F1 H1 g1 o1 r1)
theorem le_or (ha : LE K ta fa) (hb : LE K tb fb) : LE K (tOrT K ta tb) (dOrV fa fb) := fun pn H0 F H n σ δ Q o s h => by
  refine ha pn H0 F H n σ δ _ o s ((fa δ).mono (fun m x q => ?_) (fun _ _ z => z) h)
  intro v F1 H1 g1 o1 r1
  obtain ⟨k, t, q⟩ := truV_of o1 r1 q
  refine ⟨k, t, ?_⟩
  cases k with
  | false => exact iteF (hb pn H0 F1 H1 m σ δ _ o1 (s.go g1) ((fb δ).mono (fun _ _ p => Post.of g1 p) (fun _ _ z => z) q))
  | true => exact iteT (q v F1 H1 g1 o1 r1)
theorem le_notT (ha : LE K ta fa) : LE K (tNotT K ta) (dNotV fa) := fun pn H0 F H n σ δ Q o s h => by
  refine ha pn H0 F H n σ δ _ o s ((fa δ).mono (fun m x q => ?_) (fun _ _ z => z) h)
  intro v F1 H1 g1 o1 r1
  obtain ⟨k, t, q⟩ := truV_of o1 r1 q
  exact ⟨k, t, q _ F1 H1 g1 o1 (.bl _)⟩
theorem le_if (ht : LT K tt ft) (ha : LE K ta fa) (hb : LE K tb fb) : LE K (tIf tt ta tb) (dIfE ft fa fb) := fun pn H0 F H n σ δ Q o s h => by
  refine ht pn H0 F H n σ δ _ o s ((ft δ).mono (fun m c q => ?_) (fun _ _ z => z) h)
  intro F1 H1 g1 o1
  cases c with
  | true => exact iteT (ha pn H0 F1 H1 m σ δ _ o1 (s.go g1) ((fa δ).mono (fun _ _ p => Post.of g1 p) (fun _ _ z => z) q))
  | false => exact iteF (hb pn H0 F1 H1 m σ δ _ o1 (s.go g1) ((fb δ).mono (fun _ _ p => Post.of g1 p) (fun _ _ z => z) q))
/-- a op b op c -/
@[reducible] def dChain (g g2 : D → D → W D) (fa fb fc : List Sl → W D) : List Sl → W D := fun δ => (fa δ).bind fun x => (fb δ).bind fun y => (g x y).bind fun z => (blD z).bind fun c =>
  match c with | true => (fc δ).bind fun u => g2 y u | false => W.ret (.bl false)
theorem le_chain {r r2 : R2} {g g2 : D → D → W D} {tc : TE} {fc : List Sl → W D} (hr : LO2 K r g) (hr2 : LO2 K r2 g2) (ha : LE K ta fa) (hb : LE K tb fb) (hc : LE K tc fc) : LE K (tChain r r2 ta tb tc) (dChain g g2 fa fb fc) := fun pn H0 F H n σ δ Q o s h => by
  refine ha pn H0 F H n σ δ _ o s ((fa δ).mono (fun m x q => ?_) (fun _ _ z => z) h)
  intro v F1 H1 g1 o1 r1
  refine hb pn H0 F1 H1 m σ δ _ o1 (s.go g1) ((fb δ).mono (fun m2 y q2 => ?_) (fun _ _ z => z) q)
  intro w F2 H2 k2 o2 rr2
  refine hr pn F2 H2 m2 v w x y _ o2 (r1.up k2.sub) rr2 ((g x y).mono (fun m3 z q3 => ?_) (fun _ _ z => z) q2)
  intro c F3 H3 k3 o3 r3
  have g3 := (g1.trans k2 o2.fpn).trans k3 o3.fpn
  cases r3 with
  | bl b =>
    refine ⟨b, rfl, ?_⟩
    cases b with
    | false => exact iteF (q3 _ F3 H3 g3 o3 (.bl _))
    | true =>
      refine iteT (hc pn H0 F3 H3 m3 σ δ _ o3 (s.go g3) ((fc δ).mono (fun m4 u q4 => ?_) (fun _ _ z => z) q3))
      intro w4 F4 H4 k4 o4 r4
      exact hr2 pn F4 H4 m4 w w4 y u Q o4 ((rr2.up k3.sub).up k4.sub) r4 ((g2 y u).mono (fun _ _ p => Post.of (g3.trans k4 o4.fpn) p) (fun _ _ z => z) q4)
  | _ => exact q3.elim
end

/-! ### targets -/
/-- a target sets slots of vs alone -/
def LG (K : PySem.W.Frag) (vs : List Nat) (g : TG) (dg : D → List Sl → W (List Sl)) : Prop := ∀ (pn : Addr) (H0 F H : Hp) (n : Nat) (σ : L2.St) (δ : List Sl) (v : V) (d : D) (Q : L2.St → Hp → Prop), Ok K pn F H n → Slo K pn H0 F H σ δ → Rep K pn F v d →
  (dg d δ).wp n (fun m ε => ∀ σ1 F1 H1, Go pn F H F1 H1 → Ok K pn F1 H1 m → Slo K pn H0 F1 H1 σ1 ε → (∀ j : Nat, j ∉ vs → σ1[j]? = σ[j]?) → σ1.length = σ.length → Q σ1 H1) noX → g v σ H Q
@[reducible] def dName (i : Nat) : D → List Sl → W (List Sl) := fun d δ => W.ret (δ.set i (.val d))
theorem lg_name {K : PySem.W.Frag} {i : Nat} : LG K [i] (gName i) (dName i) := fun pn H0 F H n σ δ v d Q o s r h =>
  h _ F H (Go.refl ..) o (s.set r) (fun j hj => List.getElem?_set_ne (by simpa using fun e => hj (by simp [e]))) (by simp)
def LGs (K : PySem.W.Frag) (vs : List Nat) (g : TGs) (dg : List D → List Sl → W (List Sl)) : Prop := ∀ (pn : Addr) (H0 F H : Hp) (n : Nat) (σ : L2.St) (δ : List Sl) (ws : List V) (ds : List D) (Q : L2.St → Hp → Prop), Ok K pn F H n → Slo K pn H0 F H σ δ → RepL K pn F ws ds →
  (dg ds δ).wp n (fun m ε => ∀ σ1 F1 H1, Go pn F H F1 H1 → Ok K pn F1 H1 m → Slo K pn H0 F1 H1 σ1 ε → (∀ j : Nat, j ∉ vs → σ1[j]? = σ[j]?) → σ1.length = σ.length → Q σ1 H1) noX → g ws σ H Q
@[reducible] def dGNil : List D → List Sl → W (List Sl) := fun ds δ => match ds with | [] => W.ret δ | _ => W.stuck
@[reducible] def dGCons (a : D → List Sl → W (List Sl)) (b : List D → List Sl → W (List Sl)) : List D → List Sl → W (List Sl) := fun ds δ => match ds with | d :: r => (a d δ).bind fun ε => b r ε | _ => W.stuck
@[reducible] def dGTup (n : Nat) (b : List D → List Sl → W (List Sl)) : D → List Sl → W (List Sl) := fun d δ => match d with | .tup ds => W.need (ds.length = n) (b ds δ) | _ => W.stuck
section
variable {K : PySem.W.Frag} {vs us : List Nat}
theorem lgs_nil : LGs K [] gNil dGNil := fun pn H0 F H n σ δ ws ds Q o s r h => by
  cases r with
  | nil => exact ⟨rfl, h _ F H (Go.refl ..) o s (fun _ _ => rfl) rfl⟩
  | cons _ _ => exact h.elim
theorem lgs_cons {t : TG} {u : TGs} {a : D → List Sl → W (List Sl)} {b : List D → List Sl → W (List Sl)} (ha : LG K vs t a) (hb : LGs K us u b) : LGs K (vs ++ us) (gCons t u) (dGCons a b) := fun pn H0 F H n σ δ ws ds Q o s r h => by
  cases r with
  | nil => exact h.elim
  | @cons v ws d ds rv rr =>
    refine ⟨v, ws, rfl, ha pn H0 F H n σ δ v d _ o s rv ((a d δ).mono (fun m ε q => ?_) (fun _ _ z => z) h)⟩
    intro σ1 F1 H1 g1 o1 s1 e1 l1
    refine hb pn H0 F1 H1 m σ1 ε ws ds _ o1 s1 (rr.up g1.sub) ((b ds ε).mono (fun m2 ε2 q2 => ?_) (fun _ _ z => z) q)
    intro σ2 F2 H2 g2 o2 s2 e2 l2
    exact q2 σ2 F2 H2 (g1.trans g2 o2.fpn) o2 s2 (fun j hj => (e2 j fun z => hj (List.mem_append_right _ z)).trans (e1 j fun z => hj (List.mem_append_left _ z))) (l2.trans l1)
theorem lg_tup {k : Nat} {t : TGs} {b : List D → List Sl → W (List Sl)} (hb : LGs K vs t b) : LG K vs (gTup K k t) (dGTup k b) := fun pn H0 F H n σ δ v d Q o s r h => by
  cases r with
  | tup a r => exact ⟨_, _, rfl, o.fro.sqT a, (r.len.trans h.1), hb pn H0 F H n σ δ _ _ Q o s r h.2⟩
  | _ => exact h.elim
end

/-! ### statements -/
@[reducible] def dSeq (g h : List Sl → W Out) : List Sl → W Out := fun δ => (g δ).bind fun o => match o with | .nx ε => h ε | o => W.ret o
@[reducible] def dNext : List Sl → W Out := fun δ => W.ret (.nx δ)
@[reducible] def dAsg (f : List Sl → W D) (dg : D → List Sl → W (List Sl)) : List Sl → W Out := fun δ => (f δ).bind fun d => (dg d δ).bind fun ε => W.ret (.nx ε)
@[reducible] def dDrop (f : List Sl → W D) : List Sl → W Out := fun δ => (f δ).bind fun _ => W.ret (.nx δ)
@[reducible] def dRet (f : List Sl → W D) : List Sl → W Out := fun δ => (f δ).bind fun d => W.ret (.rt d)
@[reducible] def dRetN : List Sl → W Out := fun _ => W.ret (.rt .non)
@[reducible] def dIf (t : List Sl → W Bool) (a b : List Sl → W Out) : List Sl → W Out := fun δ => (t δ).bind fun c => match c with | true => a δ | false => b δ
@[reducible] def dBrk : List Sl → W Out := fun δ => W.ret (.bk δ)
@[reducible] def dCnt : List Sl → W Out := fun δ => W.ret (.ct δ)
@[reducible] def dNever : List Sl → W Out := fun _ => W.stuck
section
variable {K : PySem.W.Frag} {ts tu : TS} {g h : List Sl → W Out} {te : TE} {f : List Sl → W D}
theorem ls_next : LS K tNext dNext := fun pn F0 H0 F H n σ δ E k o s q => q σ F H (Le.refl F) k o s
theorem ls_never : LS K tNever dNever := fun pn F0 H0 F H n σ δ E k o s q => q
theorem ls_brk : LS K tBreak dBrk := fun pn F0 H0 F H n σ δ E k o s q => q σ F H (Le.refl F) k o s
theorem ls_cnt : LS K tCont dCnt := fun pn F0 H0 F H n σ δ E k o s q => q σ F H (Le.refl F) k o s
theorem ls_seq (ha : LS K ts g) (hb : LS K tu h) : LS K (tSeq ts tu) (dSeq g h) := fun pn F0 H0 F H n σ δ E k o s q => by
  refine ha pn F0 H0 F H n σ δ _ k o s ((g δ).mono (fun m u p => ?_) (fun _ _ z => z) q)
  cases u with
  | nx ε => exact fun σ1 F1 H1 l1 k1 o1 s1 => hb pn F0 H0 F1 H1 m σ1 ε E k1 o1 s1 ((h ε).mono (fun _ _ z => PostS.of l1 z) (fun _ _ z => z) p)
  | rt d => exact p
  | bk ε => exact p
  | ct ε => exact p
theorem ls_asg {vs : List Nat} {tg : TG} {dg : D → List Sl → W (List Sl)} (he : LE K te f) (hg : LG K vs tg dg) : LS K (tAsg te tg) (dAsg f dg) := fun pn F0 H0 F H n σ δ E k o s q => by
  refine he pn H0 F H n σ δ _ o s ((f δ).mono (fun m d p => ?_) (fun _ _ z => z) q)
  intro v F1 H1 k1 o1 r1
  refine hg pn H0 F1 H1 m σ δ v d _ o1 (s.go k1) r1 ((dg d δ).mono (fun m2 ε p2 => ?_) (fun _ _ z => z) p)
  intro σ2 F2 H2 k2 o2 s2 _ _
  exact p2 σ2 F2 H2 (k1.sub.trans k2.sub) ((k.trans k1 o1.fpn).trans k2 o2.fpn) o2 s2
theorem ls_drop (he : LE K te f) : LS K (tDrop te) (dDrop f) := fun pn F0 H0 F H n σ δ E k o s q => by
  refine he pn H0 F H n σ δ _ o s ((f δ).mono (fun m d p => ?_) (fun _ _ z => z) q)
  intro v F1 H1 k1 o1 r1
  exact p σ F1 H1 k1.sub (k.trans k1 o1.fpn) o1 (s.go k1)
theorem ls_ret (he : LE K te f) : LS K (tRet te) (dRet f) := fun pn F0 H0 F H n σ δ E k o s q => by
  refine he pn H0 F H n σ δ _ o s ((f δ).mono (fun m d p => ?_) (fun _ _ z => z) q)
  intro v F1 H1 k1 o1 r1
  exact p v F1 H1 (k.trans k1 o1.fpn) o1 r1
theorem ls_retN : LS K tRetN dRetN := fun pn F0 H0 F H n σ δ E k o s q => q .non F H k o .non
theorem ls_if {tt : TT} {ft : List Sl → W Bool} (ht : LT K tt ft) (ha : LS K ts g) (hb : LS K tu h) : LS K (tIfS tt ts tu) (dIf ft g h) := fun pn F0 H0 F H n σ δ E k o s q => by
  refine ht pn H0 F H n σ δ _ o s ((ft δ).mono (fun m c p => ?_) (fun _ _ z => z) q)
  intro F1 H1 k1 o1
  cases c with
  | true => exact iteT (ha pn F0 H0 F1 H1 m σ δ E (k.trans k1 o1.fpn) o1 (s.go k1) ((g δ).mono (fun _ _ z => PostS.of k1.sub z) (fun _ _ z => z) p))
  | false => exact iteF (hb pn F0 H0 F1 H1 m σ δ E (k.trans k1 o1.fpn) o1 (s.go k1) ((h δ).mono (fun _ _ z => PostS.of k1.sub z) (fun _ _ z => z) p))
end

/-! ### what is walked -/
/-- J yields ds, wherever F is frozen -/
def Yie (K : PySem.W.Frag) (pn : Addr) (F : Hp) (J : It) (ds : List D) : Prop := ∀ (i : Nat) (F1 H1 : Hp) (n : Nat), Le F F1 → Ok K pn F1 H1 n →
  (∀ d, ds[i]? = some d → J.go i H1 ∧ ∀ x H2, J.yld i H1 x H2 → ∃ F2, Go pn F1 H1 F2 H2 ∧ Ok K pn F2 H2 n ∧ Rep K pn F2 x d) ∧ (ds.length ≤ i → J.stop i H1)
def LI (K : PySem.W.Frag) (wi : TI) (f : List Sl → W (List D)) : Prop := ∀ (pn : Addr) (H0 F H : Hp) (n : Nat) (σ : L2.St) (δ : List Sl) (R : It → Hp → Prop), Ok K pn F H n → Slo K pn H0 F H σ δ →
  (f δ).wp n (fun m ds => ∀ J F1 H1, Go pn F H F1 H1 → Ok K pn F1 H1 m → Yie K pn F1 J ds → R J H1) noX → wi σ H R
@[reducible] def dIL (f : List Sl → W D) : List Sl → W (List D) := fun δ => (f δ).bind fun d => match d with | .lst xs => W.ret xs | _ => W.stuck
@[reducible] def dIT (f : List Sl → W D) : List Sl → W (List D) := fun δ => (f δ).bind fun d => match d with | .tup xs => W.ret xs | _ => W.stuck
def rangeD (lo : Int) : Nat → List D
  | 0 => []
  | n + 1 => .int lo :: rangeD (lo + 1) n
theorem rangeD_len : ∀ (n : Nat) (lo : Int), (rangeD lo n).length = n
  | 0, _ => rfl
  | n + 1, lo => congrArg (· + 1) (rangeD_len n (lo + 1))
theorem rangeD_get : ∀ (n : Nat) (lo : Int) (i : Nat), i < n → (rangeD lo n)[i]? = some (.int (lo + i))
  | 0, _, _, h => absurd h (Nat.not_lt_zero _)
  | n + 1, lo, 0, _ => by show some (D.int lo) = _; congr 2; omega
  | n + 1, lo, i + 1, h => by
    show (rangeD (lo + 1) n)[i]? = _
    rw [rangeD_get n (lo + 1) i (by omega)]
    congr 2; omega
@[reducible] def dIR1 (f : List Sl → W (List D)) : List Sl → W (List D) := fun δ => (f δ).bind fun ds => match ds with | [.int j] => W.need (-(2 ^ 62) ≤ j ∧ j < 2 ^ 62) (W.ret (rangeD 0 j.toNat)) | _ => W.stuck
@[reducible] def dIR2 (f : List Sl → W (List D)) : List Sl → W (List D) := fun δ => (f δ).bind fun ds => match ds with
  | [.int i, .int j] => W.need (-(2 ^ 62) ≤ i ∧ i < 2 ^ 62 ∧ -(2 ^ 62) ≤ j ∧ j < 2 ^ 62) (W.ret (rangeD i (j - i).toNat)) | _ => W.stuck
section
variable {K : PySem.W.Frag} {pn : Addr} {F : Hp} {a : Addr} {vs : List V} {ds : List D}
theorem yie_list (q : SqL K F a vs) (r : RepL K pn F vs ds) : Yie K pn F (Itl K a) ds := fun i F1 H1 n e o => by
  have q1 : SqL K H1 a vs := o.fro.sqL (e.sqL q)
  refine ⟨fun d hd => ?_, fun h => ⟨vs, q1, by rw [r.len]; exact h⟩⟩
  obtain ⟨v, hv, rv⟩ := r.get hd
  refine ⟨⟨vs, v, q1, hv⟩, fun x H2 y => ?_⟩
  obtain ⟨rfl, y⟩ := y
  have hx := y vs q1
  rw [hv] at hx
  cases hx
  exact ⟨F1, Go.refl .., o, rv.up e⟩
theorem yie_tup (q : SqT K F a vs) (r : RepL K pn F vs ds) : Yie K pn F (Itt K a) ds := fun i F1 H1 n e o => by
  have q1 : SqT K H1 a vs := o.fro.sqT (e.sqT q)
  refine ⟨fun d hd => ?_, fun h => ⟨vs, q1, by rw [r.len]; exact h⟩⟩
  obtain ⟨v, hv, rv⟩ := r.get hd
  refine ⟨⟨vs, v, q1, hv⟩, fun x H2 y => ?_⟩
  obtain ⟨rfl, y⟩ := y
  have hx := y vs q1
  rw [hv] at hx
  cases hx
  exact ⟨F1, Go.refl .., o, rv.up e⟩
theorem yie_range {lo : Int} {n : Nat} : Yie K pn F (Itr lo n) (rangeD lo n) := fun i F1 H1 m e o => by
  refine ⟨fun d hd => ?_, fun h => by rw [rangeD_len] at h; exact h⟩
  have hi : i < n := by
    have := (List.getElem?_eq_some_iff.mp hd).1
    rw [rangeD_len] at this; exact this
  rw [rangeD_get n lo i hi] at hd
  cases hd
  refine ⟨hi, fun x H2 y => ?_⟩
  obtain ⟨rfl, rfl⟩ := y
  exact ⟨F1, Go.refl .., o, .int _⟩
end
section
variable {K : PySem.W.Frag} {te : TE} {f : List Sl → W D}
theorem li_list (he : LE K te f) : LI K (iList K te) (dIL f) := fun pn H0 F H n σ δ R o s h => by
  refine he pn H0 F H n σ δ _ o s ((f δ).mono (fun m d p => ?_) (fun _ _ z => z) h)
  intro v F1 H1 k1 o1 r1
  cases r1 with
  | lst q r => exact ⟨_, rfl, ⟨_, SqL.of (o1.fro _ _ q)⟩, p _ F1 H1 k1 o1 (yie_list (SqL.of q) r)⟩
  | _ => exact p.elim
theorem li_tup (he : LE K te f) : LI K (iTup K te) (dIT f) := fun pn H0 F H n σ δ R o s h => by
  refine he pn H0 F H n σ δ _ o s ((f δ).mono (fun m d p => ?_) (fun _ _ z => z) h)
  intro v F1 H1 k1 o1 r1
  cases r1 with
  | tup q r => exact ⟨_, rfl, ⟨_, o1.fro.sqT q⟩, p _ F1 H1 k1 o1 (yie_tup q r)⟩
  | _ => exact p.elim
theorem RepL.int1 {pn : Addr} {F : Hp} {vs : List V} {j : Int} (r : RepL K pn F vs [.int j]) : vs = [.int j] := by
  cases r with
  | cons a b => cases a; cases b; rfl
theorem RepL.int2 {pn : Addr} {F : Hp} {vs : List V} {i j : Int} (r : RepL K pn F vs [.int i, .int j]) : vs = [.int i, .int j] := by
  cases r with
  | cons a b => cases a; rw [b.int1]
theorem li_range1 {ta : TA} {fa : List Sl → W (List D)} (ha : LA K ta fa) : LI K (iRng1 ta) (dIR1 fa) := fun pn H0 F H n σ δ R o s h => by
  refine ha pn H0 F H n σ δ _ o s ((fa δ).mono (fun m ds p => ?_) (fun _ _ z => z) h)
  intro vs F1 H1 k1 o1 r1
  dsimp only at p
  split at p
  · rename_i j
    exact ⟨j, r1.int1, p.1.1, p.1.2, p.2 _ F1 H1 k1 o1 yie_range⟩
  · exact p.elim
theorem li_range2 {ta : TA} {fa : List Sl → W (List D)} (ha : LA K ta fa) : LI K (iRng2 ta) (dIR2 fa) := fun pn H0 F H n σ δ R o s h => by
  refine ha pn H0 F H n σ δ _ o s ((fa δ).mono (fun m ds p => ?_) (fun _ _ z => z) h)
  intro vs F1 H1 k1 o1 r1
  dsimp only at p
  split at p
  · rename_i i j
    exact ⟨i, j, r1.int2, p.1, p.2 _ F1 H1 k1 o1 yie_range⟩
  · exact p.elim
end

/-! ### for -/
def forD (dg : D → List Sl → W (List Sl)) (gb : List Sl → W Out) : List D → List Sl → W Out
  | [], δ => W.ret (.nx δ)
  | d :: ds, δ => (dg d δ).bind fun ε => (gb ε).bind fun o => match o with
    | .nx ε => forD dg gb ds ε
    | .ct ε => forD dg gb ds ε
    | .bk ε => W.ret (.nx ε)
    | .rt d => W.ret (.rt d)
@[reducible] def dFor (fi : List Sl → W (List D)) (dg : D → List Sl → W (List Sl)) (gb : List Sl → W Out) : List Sl → W Out := fun δ => (fi δ).bind fun ds => forD dg gb ds δ
theorem ls_for {K : PySem.W.Frag} {wi : TI} {fi : List Sl → W (List D)} {vs : List Nat} {tg : TG} {dg : D → List Sl → W (List Sl)} {tb : TS} {gb : List Sl → W Out} (hi : LI K wi fi) (hg : LG K vs tg dg) (hb : LS K tb gb) :
    LS K (tFor wi tg tb) (dFor fi dg gb) := fun pn F0 H0 F H n σ δ E k o s q => by
  refine hi pn H0 F H n σ δ _ o s ((fi δ).mono (fun m ds p => ?_) (fun _ _ z => z) q)
  intro J F1 H1 k1 o1 y
  refine ⟨fun i m σ H => m = ds.length - i ∧ i ≤ ds.length ∧ ∃ F2 δ n, Le F1 F2 ∧ Go pn F0 H0 F2 H ∧ Ok K pn F2 H n ∧ Slo K pn H0 F2 H σ δ ∧ (forD dg gb (ds.drop i) δ).wp n (PostS K pn F0 H0 F E) noX,
    ⟨ds.length, by simp, Nat.zero_le _, F1, δ, m, Le.refl _, k.trans k1 o1.fpn, o1, s.go k1, p⟩, ?_⟩
  rintro i m2 σ2 H2 ⟨rfl, hi2, F2, δ2, n2, l2, k2, o2, s2, p2⟩
  by_cases hlt : i < ds.length
  · refine .inr ?_
    have ed : ds[i]? = some ds[i] := List.getElem?_eq_getElem hlt
    obtain ⟨go, yl⟩ := (y i F2 H2 n2 l2 o2).1 _ ed
    refine ⟨go, fun σ' H' => i + 1 ≤ ds.length ∧ ∃ F2 δ n, Le F1 F2 ∧ Go pn F0 H0 F2 H' ∧ Ok K pn F2 H' n ∧ Slo K pn H0 F2 H' σ' δ ∧ (forD dg gb (ds.drop (i + 1)) δ).wp n (PostS K pn F0 H0 F E) noX, ?_, ?_⟩
    · rintro σ' H' ⟨h1, h2⟩
      exact ⟨ds.length - (i + 1), by omega, rfl, h1, h2⟩
    · intro x H3 yx
      obtain ⟨F3, k3, o3, r3⟩ := yl x H3 yx
      rw [List.drop_eq_getElem_cons hlt] at p2
      refine hg pn H0 F3 H3 n2 σ2 δ2 x _ _ o3 (s2.go k3) r3 ((dg _ δ2).mono (fun m4 ε p4 => ?_) (fun _ _ z => z) p2)
      intro σ4 F4 H4 k4 o4 s4 _ _
      have k04 := (k2.trans k3 o3.fpn).trans k4 o4.fpn
      have l4 : Le F1 F4 := (l2.trans k3.sub).trans k4.sub
      refine hb pn F0 H0 F4 H4 m4 σ4 ε _ k04 o4 s4 ((gb ε).mono (fun m5 u p5 => ?_) (fun _ _ z => z) p4)
      cases u with
      | nx ε5 => exact fun σ5 F5 H5 l5 k5 o5 s5 => ⟨hlt, F5, ε5, m5, l4.trans l5, k5, o5, s5, p5⟩
      | ct ε5 => exact fun σ5 F5 H5 l5 k5 o5 s5 => ⟨hlt, F5, ε5, m5, l4.trans l5, k5, o5, s5, p5⟩
      | bk ε5 => exact fun σ5 F5 H5 l5 k5 o5 s5 => p5 σ5 F5 H5 ((k1.sub.trans l4).trans l5) k5 o5 s5
      | rt d => exact p5
  · have e : i = ds.length := by omega
    subst e
    rw [List.drop_length] at p2
    exact .inl ⟨(y ds.length F2 H2 n2 l2 o2).2 (Nat.le_refl _), p2 σ2 F2 H2 (k1.sub.trans l2) k2 o2 s2⟩

/-! ### while, with so many turns at most -/
def whileD (ft : List Sl → W Bool) (gb : List Sl → W Out) : Nat → List Sl → W Out
  | 0, _ => W.stuck
  | m + 1, δ => (ft δ).bind fun c => match c with
    | false => W.ret (.nx δ)
    | true => (gb δ).bind fun o => match o with
      | .nx ε => whileD ft gb m ε
      | .ct ε => whileD ft gb m ε
      | .bk ε => W.ret (.nx ε)
      | .rt d => W.ret (.rt d)
/-- any number of turns that is enough -/
@[reducible] def dWhile (ft : List Sl → W Bool) (gb : List Sl → W Out) : List Sl → W Out := fun δ => ⟨fun n Q E => ∃ m, (whileD ft gb m δ).wp n Q E, fun h g ⟨m, p⟩ => ⟨m, (whileD ft gb m δ).mono h g p⟩⟩
theorem ls_while {K : PySem.W.Frag} {tt : TT} {ft : List Sl → W Bool} {tb : TS} {gb : List Sl → W Out} (ht : LT K tt ft) (hb : LS K tb gb) : LS K (tWhile tt tb) (dWhile ft gb) := fun pn F0 H0 F H n σ δ E k o s q => by
  obtain ⟨m0, q⟩ := q
  refine ⟨fun m σ H => ∃ F1 δ n, Le F F1 ∧ Go pn F0 H0 F1 H ∧ Ok K pn F1 H n ∧ Slo K pn H0 F1 H σ δ ∧ (whileD ft gb m δ).wp n (PostS K pn F0 H0 F E) noX, ⟨m0, F, δ, n, Le.refl F, k, o, s, q⟩, ?_⟩
  rintro m σ1 H1 ⟨F1, δ1, n1, l1, k1, o1, s1, p1⟩
  cases m with
  | zero => exact p1.elim
  | succ m =>
    refine ht pn H0 F1 H1 n1 σ1 δ1 _ o1 s1 ((ft δ1).mono (fun m2 c p2 => ?_) (fun _ _ z => z) p1)
    intro F2 H2 k2 o2
    have k02 := k1.trans k2 o2.fpn
    cases c with
    | false => exact iteF (p2 σ1 F2 H2 (l1.trans k2.sub) k02 o2 (s1.go k2))
    | true =>
      refine iteT ⟨fun σ' H' => ∃ F1 δ n, Le F F1 ∧ Go pn F0 H0 F1 H' ∧ Ok K pn F1 H' n ∧ Slo K pn H0 F1 H' σ' δ ∧ (whileD ft gb m δ).wp n (PostS K pn F0 H0 F E) noX, fun σ' H' h => ⟨m, Nat.lt_succ_self m, h⟩, ?_⟩
      refine hb pn F0 H0 F2 H2 m2 σ1 δ1 _ k02 o2 (s1.go k2) ((gb δ1).mono (fun m3 u p3 => ?_) (fun _ _ z => z) p2)
      cases u with
      | nx ε => exact fun σ5 F5 H5 l5 k5 o5 s5 => ⟨F5, ε, m3, (l1.trans k2.sub).trans l5, k5, o5, s5, p3⟩
      | ct ε => exact fun σ5 F5 H5 l5 k5 o5 s5 => ⟨F5, ε, m3, (l1.trans k2.sub).trans l5, k5, o5, s5, p3⟩
      | bk ε => exact fun σ5 F5 H5 l5 k5 o5 s5 => p3 σ5 F5 H5 ((l1.trans k2.sub).trans l5) k5 o5 s5
      | rt d => exact p3
end Lx
set_option Elab.async false
set_option linter.all false
set_option maxRecDepth 100000
set_option maxHeartbeats 2000000
/-! Lx3: comprehensions, lists of one's own, calls, defs. -/
namespace Lx
open PySem L2 PyProof.Rows

section
variable {K : PySem.W.Frag} {pn p : Addr} {F H F1 H1 : Hp} {n : Nat} {o : HO}
theorem Ok.put (k : Ok K pn F H n) (hF : F p = none) (hp : p ≠ pn) : Ok K pn F (upd H p o) n :=
  ⟨fun a u e => by rw [upd_ne (ne_of_none e hF)]; exact k.fro a u e, k.fpn, k.pen.le (Le.refl F) (upd_ne hp.symm)⟩
theorem Go.put (g : Go pn F H F1 H1) (h : H p = none) : Go pn F H F1 (upd H1 p o) :=
  ⟨fun a u ne e => by rw [upd_ne (ne_of_none e h)]; exact g.keep a u ne e, g.sub, g.new⟩
theorem Ok.frz (k : Ok K pn F H n) (h : H p = some o) (hF : F p = none) (hp : p ≠ pn) : Ok K pn (upd F p o) H n := by
  refine ⟨fun a u e => ?_, by rw [upd_ne hp.symm]; exact k.fpn, k.pen.le (Le.up hF) rfl⟩
  by_cases ha : a = p
  · subst ha; rw [upd_same] at e; cases e; exact h
  · rw [upd_ne ha] at e; exact k.fro a u e
theorem Go.frz (g : Go pn F H F1 H1) (h : H p = none) (hF : F1 p = none) : Go pn F H (upd F1 p o) H1 := by
  refine ⟨g.keep, g.sub.trans (Le.up hF), fun a u e z => ?_⟩
  by_cases ha : a = p
  · subst ha; exact h
  · rw [upd_ne ha] at e; exact g.new a u e z
theorem Go.none (g : Go pn F H F1 H1) (hF : F p = none) (h : H p = some o) : F1 p = none := by
  cases q : F1 p with
  | none => rfl
  | some u => rw [g.new p u q hF] at h; cases h
end

/-! ### the slots of a block -/
def wipeD (δ : List Sl) : List Nat → List Sl
  | [] => δ
  | v :: vs => (wipeD δ vs).set v .un
theorem Slo.wipe {K : PySem.W.Frag} {pn : Addr} {H0 F H : Hp} {σ : L2.St} {δ : List Sl} (s : Slo K pn H0 F H σ δ) : ∀ vs : List Nat, Slo K pn H0 F H (L2.wipe σ vs) (wipeD δ vs)
  | [] => s
  | v :: vs => (Slo.wipe s vs).forget
theorem wipe_in {σ : L2.St} {i : Nat} : ∀ {vs : List Nat}, i ∈ vs → i < σ.length → (L2.wipe σ vs)[i]? = some none
  | [], h, _ => nomatch h
  | v :: vs, h, hl => by
    unfold L2.wipe
    by_cases e : v = i
    · subst e
      exact List.getElem?_set_self (by rw [wipe_length]; exact hl)
    · rw [List.getElem?_set_ne e]
      exact wipe_in ((List.mem_cons.mp h).resolve_left fun z => e z.symm) hl
theorem wipe_eq {σ σ2 : L2.St} {vs : List Nat} (e : ∀ j : Nat, j ∉ vs → σ2[j]? = (L2.wipe σ vs)[j]?) (l : σ2.length = (L2.wipe σ vs).length) : L2.wipe σ2 vs = L2.wipe σ vs := by
  rw [wipe_length] at l
  apply List.ext_getElem?
  intro j
  by_cases hj : j ∈ vs
  · by_cases hl : j < σ.length
    · rw [wipe_in hj hl, wipe_in hj (by omega)]
    · rw [List.getElem?_eq_none (by rw [wipe_length]; omega), List.getElem?_eq_none (by rw [wipe_length]; omega)]
  · rw [wipe_out hj, e j hj]

theorem Slo.away {K : PySem.W.Frag} {pn p : Addr} {H0 F H : Hp} {σ : L2.St} {δ : List Sl} {o : HO} (s : Slo K pn H0 F H σ δ) (h : H p = none) : Slo K pn (upd H0 p o) F H σ δ := by
  obtain ⟨ow, h1, h2⟩ := s.own
  refine ⟨s.len, s.val, ow, fun i xs e => ?_, h2⟩
  obtain ⟨vs, a, b, c, d, e', f⟩ := h1 i xs e
  exact ⟨vs, a, b, c, d, e', by rw [upd_ne (ne_of_none b h)]; exact f⟩
theorem Slo.put {K : PySem.W.Frag} {pn p : Addr} {H0 F H : Hp} {σ : L2.St} {δ : List Sl} {o u : HO} (s : Slo K pn H0 F H σ δ) (h : H0 p = some u) : Slo K pn H0 F (upd H p o) σ δ := by
  obtain ⟨ow, h1, h2⟩ := s.own
  refine ⟨s.len, s.val, ow, fun i xs e => ?_, h2⟩
  obtain ⟨vs, a, b, c, d, e', f⟩ := h1 i xs e
  exact ⟨vs, a, by rw [upd_ne (ne_of_none h f).symm]; exact b, c, d, e', f⟩

/-! ### comprehensions -/
def lcD (dg : D → List Sl → W (List Sl)) (ft : List Sl → W Bool) (fe : List Sl → W D) (δ : List Sl) : List D → Nat → W (List D)
  | [], _ => W.ret []
  | d :: ds, k => (dg d δ).bind fun ε => (ft ε).bind fun c => match c with
    | false => lcD dg ft fe δ ds k
    | true => (fe ε).bind fun y => W.need (k < sizeLine) ((lcD dg ft fe δ ds (k + 1)).bind fun ys => W.ret (y :: ys))
@[reducible] def dLc (fi : List Sl → W (List D)) (dg : D → List Sl → W (List Sl)) (ft : List Sl → W Bool) (fe : List Sl → W D) (vs : List Nat) : List Sl → W D := fun δ => (fi δ).bind fun ds => (lcD dg ft fe (wipeD δ vs) ds 0).bind fun l => W.ret (.lst l)
@[reducible] def dYes : List Sl → W Bool := fun _ => W.ret true
theorem lt_yes {K : PySem.W.Frag} : LT K tYes dYes := fun pn H0 F H n σ δ Q o s h => h F H (Go.refl ..) o
theorem le_lc {K : PySem.W.Frag} {wi : TI} {fi : List Sl → W (List D)} {us vs : List Nat} {tg : TG} {dg : D → List Sl → W (List Sl)} {tt : TT} {ft : List Sl → W Bool} {te : TE} {fe : List Sl → W D}
    (hi : LI K wi fi) (hg : LG K us tg dg) (ht : LT K tt ft) (he : LE K te fe) (hu : ∀ j, j ∈ us → j ∈ vs) : LE K (tLc wi tg tt te vs) (dLc fi dg ft fe vs) := fun pn H0 F H n σ δ Q o s q => by
  refine hi pn H0 F H n σ δ _ o s ((fi δ).mono (fun m ds p => ?_) (fun _ _ z => z) q)
  intro J F1 H1 k1 o1 y D0 hD
  have hD0 : H D0 = none := by
    have ne := o1.ne hD
    cases z : H D0 with
    | none => rfl
    | some u => rw [k1.keep D0 u ne z] at hD; cases hD
  obtain ⟨o1', k1'⟩ := o1.layO (o := .lst []) hD
  refine ⟨fun i m H2 => m = ds.length - i ∧ i ≤ ds.length ∧ ∃ F2 n acc ws, Le F1 F2 ∧ Go pn F H F2 H2 ∧ Ok K pn F2 H2 n ∧ F2 D0 = none ∧ H2 D0 = some (.lst ws) ∧ RepL K pn F2 ws acc ∧
      (lcD dg ft fe (wipeD δ vs) (ds.drop i) acc.length).wp n (fun m ys => Post K pn F H Q m (.lst (acc ++ ys))) noX,
    ⟨ds.length, by simp, Nat.zero_le _, F1, m, [], [], Le.refl _, k1.trans k1' o1'.fpn, o1', o1.free hD, upd_same, .nil, p⟩, ?_⟩
  rintro i m2 H2 ⟨rfl, hi2, F2, n2, acc, ws, l2, k2, o2, fD, hD2, rw2, p2⟩
  have nD : D0 ≠ pn := o1.ne hD
  by_cases hlt : i < ds.length
  · refine .inr ?_
    have ed : ds[i]? = some ds[i] := List.getElem?_eq_getElem hlt
    obtain ⟨go, yl⟩ := (y i F2 H2 n2 l2 o2).1 _ ed
    refine ⟨go, fun H2 => i + 1 ≤ ds.length ∧ ∃ F2 n acc ws, Le F1 F2 ∧ Go pn F H F2 H2 ∧ Ok K pn F2 H2 n ∧ F2 D0 = none ∧ H2 D0 = some (.lst ws) ∧ RepL K pn F2 ws acc ∧
      (lcD dg ft fe (wipeD δ vs) (ds.drop (i + 1)) acc.length).wp n (fun m ys => Post K pn F H Q m (.lst (acc ++ ys))) noX, ?_, ?_⟩
    · rintro H' ⟨h1, h2⟩
      exact ⟨ds.length - (i + 1), by omega, rfl, h1, h2⟩
    · intro x H3 yx
      obtain ⟨F3, k3, o3, r3⟩ := yl x H3 yx
      rw [List.drop_eq_getElem_cons hlt] at p2
      have k03 := k2.trans k3 o3.fpn
      refine hg pn H0 F3 H3 n2 (L2.wipe σ vs) (wipeD δ vs) x _ _ o3 ((s.go k03).wipe vs) r3 ((dg _ _).mono (fun m4 ε p4 => ?_) (fun _ _ z => z) p2)
      intro σ4 F4 H4 k4 o4 s4 e4 l4
      refine ⟨wipe_eq (fun j hj => e4 j fun z => hj (hu j z)) l4, ?_⟩
      refine ht pn H0 F4 H4 m4 σ4 ε _ o4 s4 ((ft ε).mono (fun m5 c p5 => ?_) (fun _ _ z => z) p4)
      intro F5 H5 k5 o5
      have f3 := k3.none fD hD2
      have h3 := k3.keep _ _ nD hD2
      have f4 := k4.none f3 h3
      have h4 := k4.keep _ _ nD h3
      have f5 := k5.none f4 h4
      have h5 := k5.keep _ _ nD h4
      have k05 := (k03.trans k4 o4.fpn).trans k5 o5.fpn
      have l5 : Le F1 F5 := ((l2.trans k3.sub).trans k4.sub).trans k5.sub
      have rw5 : RepL K pn F5 ws acc := (((rw2.up k3.sub).up k4.sub).up k5.sub)
      cases c with
      | false => exact iteF ⟨hlt, F5, m5, acc, ws, l5, k05, o5, f5, h5, rw5, p5⟩
      | true =>
        refine iteT (he pn H0 F5 H5 m5 σ4 ε _ o5 (s4.go k5) ((fe ε).mono (fun m6 z p6 => ?_) (fun _ _ z => z) p5))
        intro v F6 H6 k6 o6 r6
        have f6 := k6.none f5 h5
        have h6 := k6.keep _ _ nD h5
        refine ⟨ws, h6, by rw [rw5.len]; exact p6.1, hlt, F6, m6, acc ++ [z], ws ++ [v], l5.trans k6.sub, (k05.trans k6 o6.fpn).put hD0, o6.put f6 nD, f6, upd_same, (rw5.up k6.sub).app (.cons r6 .nil), ?_⟩
        rw [List.length_append, List.length_singleton]
        refine (lcD dg ft fe (wipeD δ vs) (ds.drop (i + 1)) (acc.length + 1)).mono (fun m7 ys p7 => ?_) (fun _ _ z => z) p6.2
        rw [List.append_assoc]
        exact p7
  · have e : i = ds.length := by omega
    subst e
    rw [List.drop_length] at p2
    refine .inl ⟨(y ds.length F2 H2 n2 l2 o2).2 (Nat.le_refl _), ?_⟩
    have p2' : Post K pn F H Q n2 (.lst (acc ++ [])) := p2
    rw [List.append_nil] at p2'
    exact p2' (.ref D0) _ H2 (k2.frz hD0 fD) (o2.frz hD2 fD nD) (.lst upd_same (rw2.up (Le.up fD)))

/-! two clauses -/
def lcIn (dg : D → List Sl → W (List Sl)) (ft : List Sl → W Bool) (fe : List Sl → W D) (δ : List Sl) : List D → Nat → W (List D)
  | [], _ => W.ret []
  | d :: ds, k => (dg d δ).bind fun ε => (ft ε).bind fun c => match c with
    | false => lcIn dg ft fe δ ds k
    | true => (fe ε).bind fun y => W.need (k < sizeLine) ((lcIn dg ft fe δ ds (k + 1)).bind fun ys => W.ret (y :: ys))
def lc2D (dg : D → List Sl → W (List Sl)) (ft : List Sl → W Bool) (fj : List Sl → W (List D)) (dh : D → List Sl → W (List Sl)) (fu : List Sl → W Bool) (fe : List Sl → W D) (us : List Nat) (δ : List Sl) : List D → Nat → W (List D)
  | [], _ => W.ret []
  | d :: ds, k => (dg d δ).bind fun ε => (ft ε).bind fun c => match c with
    | false => lc2D dg ft fj dh fu fe us δ ds k
    | true => (fj ε).bind fun es => (lcIn dh fu fe (wipeD ε us) es k).bind fun ys => (lc2D dg ft fj dh fu fe us δ ds (k + ys.length)).bind fun zs => W.ret (ys ++ zs)
@[reducible] def dLc2 (fi : List Sl → W (List D)) (dg : D → List Sl → W (List Sl)) (ft : List Sl → W Bool) (fj : List Sl → W (List D)) (dh : D → List Sl → W (List Sl)) (fu : List Sl → W Bool) (fe : List Sl → W D) (vs us : List Nat) : List Sl → W D :=
  fun δ => (fi δ).bind fun ds => (lc2D dg ft fj dh fu fe us (wipeD δ vs) ds 0).bind fun l => W.ret (.lst l)
theorem le_lc2 {K : PySem.W.Frag} {wi wj : TI} {fi fj : List Sl → W (List D)} {us vs v1 v2 : List Nat} {tg th : TG} {dg dh : D → List Sl → W (List Sl)} {tt tu : TT} {ft fu : List Sl → W Bool} {te : TE} {fe : List Sl → W D}
    (hi : LI K wi fi) (hg : LG K v1 tg dg) (ht : LT K tt ft) (hj : LI K wj fj) (hh : LG K v2 th dh) (hu : LT K tu fu) (he : LE K te fe) (h1 : ∀ j, j ∈ v1 → j ∈ vs) (h2 : ∀ j, j ∈ v2 → j ∈ us) :
    LE K (tLc2 wi tg tt wj th tu te vs us) (dLc2 fi dg ft fj dh fu fe vs us) := fun pn H0 F H n σ δ Q o s q => by
  refine hi pn H0 F H n σ δ _ o s ((fi δ).mono (fun m ds p => ?_) (fun _ _ z => z) q)
  intro J F1 H1 k1 o1 y D0 hD
  have hD0 : H D0 = none := by
    have ne := o1.ne hD
    cases z : H D0 with
    | none => rfl
    | some u => rw [k1.keep D0 u ne z] at hD; cases hD
  obtain ⟨o1', k1'⟩ := o1.layO (o := .lst []) hD
  have nD : D0 ≠ pn := o1.ne hD
  refine ⟨fun i m H2 => m = ds.length - i ∧ i ≤ ds.length ∧ ∃ F2 n acc ws, Le F1 F2 ∧ Go pn F H F2 H2 ∧ Ok K pn F2 H2 n ∧ F2 D0 = none ∧ H2 D0 = some (.lst ws) ∧ RepL K pn F2 ws acc ∧
      (lc2D dg ft fj dh fu fe us (wipeD δ vs) (ds.drop i) acc.length).wp n (fun m ys => Post K pn F H Q m (.lst (acc ++ ys))) noX,
    ⟨ds.length, by simp, Nat.zero_le _, F1, m, [], [], Le.refl _, k1.trans k1' o1'.fpn, o1', o1.free hD, upd_same, .nil, p⟩, ?_⟩
  rintro i m2 H2 ⟨rfl, hi2, F2, n2, acc, ws, l2, k2, o2, fD, hD2, rw2, p2⟩
  by_cases hlt : i < ds.length
  · refine .inr ?_
    have ed : ds[i]? = some ds[i] := List.getElem?_eq_getElem hlt
    obtain ⟨go, yl⟩ := (y i F2 H2 n2 l2 o2).1 _ ed
    refine ⟨go, fun H2 => i + 1 ≤ ds.length ∧ ∃ F2 n acc ws, Le F1 F2 ∧ Go pn F H F2 H2 ∧ Ok K pn F2 H2 n ∧ F2 D0 = none ∧ H2 D0 = some (.lst ws) ∧ RepL K pn F2 ws acc ∧
      (lc2D dg ft fj dh fu fe us (wipeD δ vs) (ds.drop (i + 1)) acc.length).wp n (fun m ys => Post K pn F H Q m (.lst (acc ++ ys))) noX, ?_, ?_⟩
    · rintro H' ⟨h1, h2⟩
      exact ⟨ds.length - (i + 1), by omega, rfl, h1, h2⟩
    · intro x H3 yx
      obtain ⟨F3, k3, o3, r3⟩ := yl x H3 yx
      rw [List.drop_eq_getElem_cons hlt] at p2
      have k03 := k2.trans k3 o3.fpn
      refine hg pn (upd H0 D0 (.lst [])) F3 H3 n2 (L2.wipe σ vs) (wipeD δ vs) x _ _ o3 (((s.away hD0).go k03).wipe vs) r3 ((dg _ _).mono (fun m4 ε p4 => ?_) (fun _ _ z => z) p2)
      intro σ4 F4 H4 k4 o4 s4 e4 l4
      refine ⟨wipe_eq (fun j hj => e4 j fun z => hj (h1 j z)) l4, ?_⟩
      refine ht pn (upd H0 D0 (.lst [])) F4 H4 m4 σ4 ε _ o4 s4 ((ft ε).mono (fun m5 c p5 => ?_) (fun _ _ z => z) p4)
      intro F5 H5 k5 o5
      have f3 := k3.none fD hD2
      have h3 := k3.keep _ _ nD hD2
      have f4 := k4.none f3 h3
      have h4 := k4.keep _ _ nD h3
      have f5 := k5.none f4 h4
      have h5 := k5.keep _ _ nD h4
      have k05 := (k03.trans k4 o4.fpn).trans k5 o5.fpn
      have l5 : Le F1 F5 := ((l2.trans k3.sub).trans k4.sub).trans k5.sub
      have rw5 : RepL K pn F5 ws acc := (((rw2.up k3.sub).up k4.sub).up k5.sub)
      cases c with
      | false => exact iteF ⟨hlt, F5, m5, acc, ws, l5, k05, o5, f5, h5, rw5, p5⟩
      | true =>
        have s5 := s4.go k5
        refine iteT (hj pn (upd H0 D0 (.lst [])) F5 H5 m5 σ4 ε _ o5 s5 ((fj ε).mono (fun m6 es p6 => ?_) (fun _ _ z => z) p5))
        intro J1 F6 H6 k6 o6 y6
        have f6 := k6.none f5 h5
        have h6 := k6.keep _ _ nD h5
        have k06 := k05.trans k6 o6.fpn
        have s6 := s5.go k6
        refine ⟨fun j m H7 => m = es.length - j ∧ j ≤ es.length ∧ ∃ F7 n ac ws, Le F6 F7 ∧ Go pn F H F7 H7 ∧ Ok K pn F7 H7 n ∧ Slo K pn (upd H0 D0 (.lst [])) F7 H7 σ4 ε ∧ F7 D0 = none ∧ H7 D0 = some (.lst ws) ∧ RepL K pn F7 ws (acc ++ ac) ∧ (lcIn dh fu fe (wipeD ε us) (es.drop j) (acc.length + ac.length)).wp n (fun m ys => (lc2D dg ft fj dh fu fe us (wipeD δ vs) (ds.drop (i + 1)) (acc.length + (ac ++ ys).length)).wp m (fun m zs => Post K pn F H Q m (.lst (acc ++ ((ac ++ ys) ++ zs)))) noX) noX,
          ⟨es.length, by simp, Nat.zero_le _, F6, m6, [], ws, Le.refl _, k06, o6, s6, f6, h6, by rw [List.append_nil]; exact rw5.up k6.sub, p6⟩, ?_⟩
        rintro j m7 H7 ⟨rfl, hj7, F7, n7, ac, w7, l7, k7, o7, s7, f7, h7, r7, p7⟩
        by_cases hlt7 : j < es.length
        · refine .inr ?_
          have ed7 : es[j]? = some es[j] := List.getElem?_eq_getElem hlt7
          obtain ⟨go7, yl7⟩ := (y6 j F7 H7 n7 l7 o7).1 _ ed7
          refine ⟨go7, fun H7 => j + 1 ≤ es.length ∧ ∃ F7 n ac ws, Le F6 F7 ∧ Go pn F H F7 H7 ∧ Ok K pn F7 H7 n ∧ Slo K pn (upd H0 D0 (.lst [])) F7 H7 σ4 ε ∧ F7 D0 = none ∧ H7 D0 = some (.lst ws) ∧ RepL K pn F7 ws (acc ++ ac) ∧ (lcIn dh fu fe (wipeD ε us) (es.drop (j + 1)) (acc.length + ac.length)).wp n (fun m ys => (lc2D dg ft fj dh fu fe us (wipeD δ vs) (ds.drop (i + 1)) (acc.length + (ac ++ ys).length)).wp m (fun m zs => Post K pn F H Q m (.lst (acc ++ ((ac ++ ys) ++ zs)))) noX) noX, ?_, ?_⟩
          · rintro H' ⟨h1, h2⟩
            exact ⟨es.length - (j + 1), by omega, rfl, h1, h2⟩
          · intro x8 H8 yx8
            obtain ⟨F8, k8, o8, r8⟩ := yl7 x8 H8 yx8
            rw [List.drop_eq_getElem_cons hlt7] at p7
            have s8 := s7.go k8
            have f8 := k8.none f7 h7
            have h8 := k8.keep _ _ nD h7
            refine hh pn (upd H0 D0 (.lst [])) F8 H8 n7 (L2.wipe σ4 us) (wipeD ε us) x8 _ _ o8 (s8.wipe us) r8 ((dh _ _).mono (fun m9 η p9 => ?_) (fun _ _ z => z) p7)
            intro σ9 F9 H9 k9 o9 s9 e9 l9
            refine ⟨wipe_eq (fun j hj => e9 j fun z => hj (h2 j z)) l9, ?_⟩
            refine hu pn (upd H0 D0 (.lst [])) F9 H9 m9 σ9 η _ o9 s9 ((fu η).mono (fun ma c pa => ?_) (fun _ _ z => z) p9)
            intro Fa Ha ka oa
            have f9 := k9.none f8 h8
            have h9 := k9.keep _ _ nD h8
            have fa := ka.none f9 h9
            have ha := ka.keep _ _ nD h9
            have k0a := ((k7.trans k8 o8.fpn).trans k9 o9.fpn).trans ka oa.fpn
            have la : Le F6 Fa := ((l7.trans k8.sub).trans k9.sub).trans ka.sub
            have sa : Slo K pn (upd H0 D0 (.lst [])) Fa Ha σ4 ε := ((s7.go k8).go k9).go ka
            have ra := ((r7.up k8.sub).up k9.sub).up ka.sub
            cases c with
            | false => exact iteF ⟨hlt7, Fa, ma, ac, w7, la, k0a, oa, sa, fa, ha, ra, pa⟩
            | true =>
              refine iteT (he pn (upd H0 D0 (.lst [])) Fa Ha ma σ9 η _ oa (s9.go ka) ((fe η).mono (fun mb z pb => ?_) (fun _ _ z => z) pa))
              intro v Fb Hb kb ob rb
              have fb := kb.none fa ha
              have hb := kb.keep _ _ nD ha
              refine ⟨w7, hb, by rw [ra.len, List.length_append]; exact pb.1, hlt7, Fb, mb, ac ++ [z], w7 ++ [v], la.trans kb.sub, (k0a.trans kb ob.fpn).put hD0, ob.put fb nD, (sa.go kb).put upd_same, fb, upd_same, by rw [← List.append_assoc]; exact (ra.up kb.sub).app (.cons rb .nil), ?_⟩
              rw [List.length_append, List.length_singleton]
              refine (lcIn dh fu fe (wipeD ε us) (es.drop (j + 1)) (acc.length + ac.length + 1)).mono (fun mc ys pc => ?_) (fun _ _ z => z) pb.2
              rw [List.append_assoc]
              exact pc
        · have e : j = es.length := by omega
          subst e
          rw [List.drop_length] at p7
          refine .inl ⟨(y6 es.length F7 H7 n7 l7 o7).2 (Nat.le_refl _), ?_⟩
          refine ⟨hlt, F7, n7, acc ++ ac, w7, (l5.trans k6.sub).trans l7, k7, o7, f7, h7, r7, ?_⟩
          have p7' : (lc2D dg ft fj dh fu fe us (wipeD δ vs) (ds.drop (i + 1)) (acc.length + (ac ++ []).length)).wp n7 (fun m zs => Post K pn F H Q m (.lst (acc ++ ((ac ++ []) ++ zs)))) noX := p7
          rw [List.append_nil] at p7'
          rw [List.length_append]
          refine (lc2D dg ft fj dh fu fe us (wipeD δ vs) (ds.drop (i + 1)) (acc.length + ac.length)).mono (fun mc ys pc => ?_) (fun _ _ z => z) p7'
          rw [List.append_assoc]
          exact pc
  · have e : i = ds.length := by omega
    subst e
    rw [List.drop_length] at p2
    refine .inl ⟨(y ds.length F2 H2 n2 l2 o2).2 (Nat.le_refl _), ?_⟩
    have p2' : Post K pn F H Q n2 (.lst (acc ++ [])) := p2
    rw [List.append_nil] at p2'
    exact p2' (.ref D0) _ H2 (k2.frz hD0 fD) (o2.frz hD2 fD nD) (.lst upd_same (rw2.up (Le.up fD)))

/-! ### lists of one's own -/
section
variable {K : PySem.W.Frag}
theorem un_get {δ : List Sl} {i j : Nat} {x : Sl} (e : (δ.set i Sl.un)[j]? = some x) (hx : x ≠ Sl.un) : j ≠ i ∧ δ[j]? = some x := by
  by_cases hj : j = i
  · subst hj
    by_cases hl : j < δ.length
    · rw [List.getElem?_set_self hl] at e
      cases e; exact absurd rfl hx
    · rw [List.getElem?_eq_none (by simpa using hl)] at e
      cases e
  · rw [List.getElem?_set_ne (Ne.symm hj)] at e; exact ⟨hj, e⟩
theorem Slo.setOwn {pn p : Addr} {H0 F H : Hp} {σ : L2.St} {δ : List Sl} {i : Nat} {vs : List V} {xs : List D} (s : Slo K pn H0 F H σ δ) (hp : H p = some (.lst vs)) (r : RepL K pn F vs xs) (hF : F p = none) (hn : p ≠ pn) (h0 : H0 p = none)
    (ap : ∀ (j : Nat) (ys : List D), j ≠ i → δ[j]? = some (Sl.own ys) → σ[j]? ≠ some (some (.ref p))) : Slo K pn H0 F H (σ.set i (some (.ref p))) (δ.set i (.own xs)) := by
  obtain ⟨ow, h1, h2⟩ := s.own
  have cases_ : ∀ {j : Nat} {x : Sl}, (δ.set i (.own xs))[j]? = some x → (j = i ∧ x = .own xs ∧ i < δ.length) ∨ (j ≠ i ∧ δ[j]? = some x) := fun {j x} e => by
    by_cases hj : j = i
    · subst hj
      have hl : j < δ.length := by
        have := (List.getElem?_eq_some_iff.mp e).1
        simpa using this
      rw [List.getElem?_set_self hl] at e
      cases e
      exact .inl ⟨rfl, rfl, hl⟩
    · rw [List.getElem?_set_ne (Ne.symm hj)] at e; exact .inr ⟨hj, e⟩
  refine ⟨by simpa using s.len, fun j d e => ?_, fun j => if j = i then p else ow j, fun j ys e => ?_, fun j k ys zs e e' q => ?_⟩
  · rcases cases_ e with ⟨_, z, _⟩ | ⟨hj, e⟩
    · cases z
    · rw [List.getElem?_set_ne (Ne.symm hj)]; exact s.val j d e
  · rcases cases_ e with ⟨rfl, z, hl⟩ | ⟨hj, e⟩
    · cases z
      simp only [if_true]
      exact ⟨vs, List.getElem?_set_self (by rw [s.len]; exact hl), hp, r, hF, hn, h0⟩
    · simp only [if_neg hj]
      rw [List.getElem?_set_ne (Ne.symm hj)]
      exact h1 j ys e
  · rcases cases_ e with ⟨a1, z, hl⟩ | ⟨hj, e1⟩
    · rcases cases_ e' with ⟨a2, z', _⟩ | ⟨hk, e2⟩
      · rw [a1, a2]
      · simp only [if_pos a1, if_neg hk] at q
        obtain ⟨vs', a, _⟩ := h1 k zs e2
        exact absurd (by rw [q]; exact a) (ap k zs hk e2)
    · rcases cases_ e' with ⟨a2, z', _⟩ | ⟨hk, e2⟩
      · simp only [if_pos a2, if_neg hj] at q
        obtain ⟨vs', a, _⟩ := h1 j ys e1
        exact absurd (by rw [← q]; exact a) (ap j ys hj e1)
      · simp only [if_neg hj, if_neg hk] at q
        exact h2 j k ys zs e1 e2 q
@[reducible] def dOwn (f : List Sl → W (List D)) (i : Nat) : List Sl → W Out := fun δ => (f δ).bind fun xs => W.need (xs.length ≤ sizeLine) (W.ret (.nx (δ.set i (.own xs))))
theorem ls_own {t : TA} {f : List Sl → W (List D)} {i : Nat} (ha : LA K t f) : LS K (tAsg (tLst t) (gName i)) (dOwn f i) := fun pn F0 H0 F H n σ δ E k o s q => by
  refine ha pn H0 F H n σ δ _ o s ((f δ).mono (fun m xs p => ?_) (fun _ _ z => z) q)
  intro vs F1 H1 k1 o1 r1
  refine ⟨by rw [r1.len]; exact p.1, fun l hl => ?_⟩
  obtain ⟨o2, k2⟩ := o1.layO (o := .lst vs) hl
  have s2 := (s.go k1).go k2
  have k01 := k.trans k1 o1.fpn
  have h0 : H0 l = none := by
    have ne := o1.ne hl
    cases z : H0 l with
    | none => rfl
    | some u => rw [k01.keep l u ne z] at hl; cases hl
  refine p.2 _ F1 _ k1.sub (k01.trans k2 o2.fpn) o2 (s2.setOwn upd_same r1 (o1.free hl) (o1.ne hl) h0 fun j ys hj e z => ?_)
  obtain ⟨ow, q1, _⟩ := (s.go k1).own
  obtain ⟨vs', a, b, _⟩ := q1 j ys e
  rw [z] at a
  cases a
  rw [hl] at b; cases b
/-- x.append(e), x a list of one's own -/
@[reducible] def dApp (i : Nat) (f : List Sl → W D) : List Sl → W Out := fun δ => match δ[i]? with | some (.own xs) => (f δ).bind fun y => W.need (xs.length < sizeLine) (W.ret (.nx (δ.set i (.own (xs ++ [y]))))) | _ => W.stuck
theorem Slo.apart {pn : Addr} {H0 F H : Hp} {σ : L2.St} {δ : List Sl} {i : Nat} {xs : List D} (s : Slo K pn H0 F H σ δ) (e : δ[i]? = some (Sl.own xs)) : ∃ p vs, σ[i]? = some (some (.ref p)) ∧ H p = some (.lst vs) ∧ RepL K pn F vs xs ∧ F p = none ∧ p ≠ pn ∧ H0 p = none ∧
    ∀ (j : Nat) (ys : List D), j ≠ i → δ[j]? = some (Sl.own ys) → σ[j]? ≠ some (some (.ref p)) := by
  obtain ⟨ow, h1, h2⟩ := s.own
  obtain ⟨vs, a, b, c, d, e', f⟩ := h1 i xs e
  refine ⟨ow i, vs, a, b, c, d, e', f, fun j ys hj ej z => ?_⟩
  obtain ⟨_, a2, _⟩ := h1 j ys ej
  rw [z] at a2
  injection a2 with a3
  injection a3 with a4
  injection a4 with a5
  exact hj (h2 j i ys xs ej e a5.symm)
/-- one's own list is put anew: the other slots stand -/
theorem Slo.putOwn {pn p : Addr} {H0 F H : Hp} {σ : L2.St} {δ : List Sl} {i : Nat} {xs ys : List D} {ws : List V} (s : Slo K pn H0 F H σ δ) (e : δ[i]? = some (Sl.own xs)) (ep : σ[i]? = some (some (.ref p))) (r : RepL K pn F ws ys) : Slo K pn H0 F (upd H p (.lst ws)) σ (δ.set i (.own ys)) := by
  obtain ⟨q, vs, a, b, c, d, e', f, ap⟩ := s.apart e
  rw [ep] at a
  cases a
  obtain ⟨ow, h1, h2⟩ := s.own
  have s2 : Slo K pn H0 F (upd H p (.lst ws)) σ (δ.set i .un) := by
    have neq : ∀ {j : Nat} {x : Sl}, (δ.set i .un)[j]? = some x → x ≠ Sl.un → j ≠ i ∧ δ[j]? = some x := un_get
    refine ⟨by simpa using s.len, fun j d' e1 => s.val j d' (neq e1 (fun z => by cases z)).2, ow, fun j zs e1 => ?_, fun j k as bs e1 e2 => h2 j k as bs (neq e1 (fun z => by cases z)).2 (neq e2 (fun z => by cases z)).2⟩
    obtain ⟨hj, e1⟩ := neq e1 (fun z => by cases z)
    obtain ⟨v2, a2, b2, c2⟩ := h1 j zs e1
    refine ⟨v2, a2, ?_, c2⟩
    have ne : ow j ≠ p := fun z => ap j zs hj e1 (by rw [← z]; exact a2)
    rw [upd_ne ne]
    exact b2
  have hl : i < δ.length := (List.getElem?_eq_some_iff.mp e).1
  have s3 := s2.setOwn (i := i) (p := p) (vs := ws) (xs := ys) upd_same r d e' f (fun j zs hj e1 => by
    rw [List.getElem?_set_ne (Ne.symm hj)] at e1
    exact ap j zs hj e1)
  have e1 : σ.set i (some (.ref p)) = σ := by
    apply List.ext_getElem?
    intro j
    by_cases hj : j = i
    · subst hj
      rw [List.getElem?_set_self (by rw [s.len]; exact hl), ep]
    · rw [List.getElem?_set_ne (Ne.symm hj)]
  have e2 : (δ.set i .un).set i (.own ys) = δ.set i (.own ys) := by simp
  rw [e1, e2] at s3
  exact s3
theorem ls_app {te : TE} {f : List Sl → W D} {i : Nat} (he : LE K te f) : LS K (tDrop (tBM K "list" rAppend (tVar i) (tCons te tNil))) (dApp i f) := fun pn F0 H0 F H n σ δ E k o s q => by
  unfold dApp at q
  cases e : δ[i]? with
  | none => rw [e] at q; exact q.elim
  | some x =>
    rw [e] at q
    cases x with
    | un => exact q.elim
    | val d => exact q.elim
    | own xs =>
      obtain ⟨p, vs, a, b, c, d, e', f', ap⟩ := s.apart e
      refine ⟨.ref p, a, .inl ⟨rfl, vs, SqL.of b⟩, ?_⟩
      refine he pn H0 F H n σ δ _ o s ((f δ).mono (fun m y p2 => ?_) (fun _ _ z => z) q)
      intro v F1 H1 k1 o1 r1
      have h1 := k1.keep p _ e' b
      have f1 := k1.none d b
      refine ⟨p, vs, v, rfl, rfl, h1, by rw [c.len]; exact p2.1, ?_⟩
      exact p2.2 σ F1 _ k1.sub ((k.trans k1 o1.fpn).put f') (o1.put f1 e') ((s.go k1).putOwn e a ((c.up k1.sub).app (.cons r1 .nil)))
/-- a list of one's own is shown from here on -/
def frzD (i : Nat) (δ : List Sl) : List Sl := match δ[i]? with
  | some (.own xs) => δ.set i (.val (.lst xs))
  | _ => δ
theorem ls_frz {ts : TS} {g : List Sl → W Out} (i : Nat) (h : LS K ts g) : LS K ts (fun δ => g (frzD i δ)) := fun pn F0 H0 F H n σ δ E k o s q => by
  dsimp only at q
  unfold frzD at q
  cases e : δ[i]? with
  | none => rw [e] at q; exact h pn F0 H0 F H n σ δ E k o s q
  | some x =>
    rw [e] at q
    cases x with
    | un => exact h pn F0 H0 F H n σ δ E k o s q
    | val d => exact h pn F0 H0 F H n σ δ E k o s q
    | own xs =>
      obtain ⟨p, vs, a, b, c, d, e', f', ap⟩ := s.apart e
      have hl : i < δ.length := (List.getElem?_eq_some_iff.mp e).1
      have lf : Le F (upd F p (.lst vs)) := Le.up d
      have s1 : Slo K pn H0 (upd F p (.lst vs)) H σ (δ.set i .un) := by
        obtain ⟨ow, h1, h2⟩ := s.own
        have neq : ∀ {j : Nat} {x : Sl}, (δ.set i .un)[j]? = some x → x ≠ Sl.un → j ≠ i ∧ δ[j]? = some x := un_get
        refine ⟨by simpa using s.len, fun j d' e1 => let ⟨v, q, r⟩ := s.val j d' (neq e1 (fun z => by cases z)).2; ⟨v, q, r.up lf⟩, ow, fun j zs e1 => ?_, fun j k as bs e1 e2 => h2 j k as bs (neq e1 (fun z => by cases z)).2 (neq e2 (fun z => by cases z)).2⟩
        obtain ⟨hj, e1⟩ := neq e1 (fun z => by cases z)
        obtain ⟨v2, a2, b2, c2, d2, e2⟩ := h1 j zs e1
        have ne : ow j ≠ p := fun z => ap j zs hj e1 (by rw [← z]; exact a2)
        exact ⟨v2, a2, b2, c2.up lf, by rw [upd_ne ne]; exact d2, e2⟩
      have s2 := s1.set (i := i) (v := .ref p) (d := .lst xs) (.lst upd_same (c.up lf))
      have e1 : σ.set i (some (.ref p)) = σ := by
        apply List.ext_getElem?
        intro j
        by_cases hj : j = i
        · subst hj
          rw [List.getElem?_set_self (by rw [s.len]; exact hl), a]
        · rw [List.getElem?_set_ne (Ne.symm hj)]
      have e2 : (δ.set i .un).set i (.val (.lst xs)) = δ.set i (.val (.lst xs)) := by simp
      rw [e1, e2] at s2
      exact h pn F0 H0 _ H n σ _ E (k.frz f' d) (o.frz b d e') s2 ((g _).mono (fun _ _ z => PostS.of lf z) (fun _ _ z => z) q)
end

/-! ### defs -/
/-- the promise: called with values that bear data ds, it does as g says; nothing is raised -/
def Pr (K : PySem.W.Frag) (m : Nat) (g : List D → W D) : Sp := fun vs H Q _ => ∃ pn F ds n, Ok K pn F H n ∧ RepL K pn F vs ds ∧ ds.length = m ∧ (g ds).wp n (Post K pn F H Q) noX
theorem Pr.len {K : PySem.W.Frag} {m : Nat} {g : List D → W D} (vs : List V) (H : Hp) (Q : VK) (E : XK) (h : Pr K m g vs H Q E) : vs.length = m := by
  obtain ⟨_, _, _, _, _, r, e, _⟩ := h
  rw [r.len, e]
theorem Pr.imp {K : PySem.W.Frag} {m : Nat} {g h : List D → W D} (i : ∀ ds n Q, ds.length = m → (h ds).wp n Q noX → (g ds).wp n Q noX) (vs : List V) (H : Hp) (Q : VK) (E : XK) (p : Pr K m h vs H Q E) : Pr K m g vs H Q E := by
  obtain ⟨pn, F, ds, n, o, r, e, q⟩ := p
  exact ⟨pn, F, ds, n, o, r, e, i ds n _ e q⟩
@[reducible] def dCall (m : Nat) (g : List D → W D) (f : List Sl → W (List D)) : List Sl → W D := fun δ => (f δ).bind fun ds => W.need (ds.length = m) (g ds)
theorem le_call {K : PySem.W.Frag} {m : Nat} {g : List D → W D} {t : TA} {f : List Sl → W (List D)} (ha : LA K t f) : LE K (tCall (Pr K m g) [] E0 t) (dCall m g f) := fun pn H0 F H n σ δ Q o s h => by
  refine ha pn H0 F H n σ δ _ o s ((f δ).mono (fun k ds p => ?_) (fun _ _ z => z) h)
  intro vs F1 H1 k1 o1 r1
  refine ⟨pn, F1, ds, k, o1, by rw [List.append_nil]; exact r1, p.1, (g ds).mono (fun _ _ z => Post.of k1 z) (fun _ _ z => z) p.2⟩
def startD (N : List Str) (ds : List D) : List Sl := ds.map Sl.val ++ List.replicate (N.length - ds.length) Sl.un
@[reducible] def dBody (N : List Str) (b : List Sl → W Out) : List D → W D := fun ds => (b (startD N ds)).bind fun o => match o with
  | .nx _ => W.ret .non
  | .rt d => W.ret d
  | _ => W.stuck
theorem Slo.start {K : PySem.W.Frag} {pn : Addr} {F H : Hp} {N : List Str} {vs : List V} {ds : List D} (r : RepL K pn F vs ds) : Slo K pn H F H (L2.start N vs) (startD N ds) := by
  have get : ∀ {j : Nat} {x : Sl}, (startD N ds)[j]? = some x → x ≠ .un → ∃ d, ds[j]? = some d ∧ x = .val d := fun {j x} e hx => by
    unfold startD at e
    by_cases hj : j < (ds.map Sl.val).length
    · rw [List.getElem?_append_left hj, List.getElem?_map] at e
      cases q : ds[j]? with
      | none => rw [q] at e; cases e
      | some d => rw [q] at e; cases e; exact ⟨d, rfl, rfl⟩
    · rw [List.getElem?_append_right (by omega), List.getElem?_replicate] at e
      split at e
      · cases e; exact absurd rfl hx
      · cases e
  refine ⟨?_, fun j d e => ?_, fun _ => 0, fun j xs e => ?_, fun j k xs ys e => ?_⟩
  · unfold L2.start startD
    rw [List.length_append, List.length_append, List.length_map, List.length_map, List.length_replicate, List.length_replicate, r.len]
  · obtain ⟨d', e1, e2⟩ := get e (fun z => by cases z)
    cases e2
    obtain ⟨v, hv, rv⟩ := r.get e1
    refine ⟨v, ?_, rv⟩
    unfold L2.start
    have hl : j < vs.length := (List.getElem?_eq_some_iff.mp hv).1
    rw [List.getElem?_append_left (by simpa using hl), List.getElem?_map, hv]
    rfl
  · obtain ⟨d', e1, e2⟩ := get e (fun z => by cases z)
    cases e2
  · obtain ⟨d', e1, e2⟩ := get e (fun z => by cases z)
    cases e2
section
variable {P : Program} {w : World} {K : PySem.W.Frag} {mg : Str → Option Value} {base : Heap} {x qual : Str} {params : Arguments} {body : List Stmt} {scope : Scope} {dvs : List V} {kws : List (Str × V)} {f : Addr} {fd : FuncData}
theorem body_lx {N : List Str} {t : TS} {b : List Sl → W Out} (hl : LS K t b) {m : Nat} {vs : List V} {H : Hp} {Q : VK} {E : XK} (h : Pr K m (dBody N b) vs H Q E) : t { nx := fun _ H' => Q .non H', rt := Q } (L2.start N vs) H := by
  obtain ⟨pn, F, ds, n, o, r, e, q⟩ := h
  refine hl pn F H F H n (L2.start N vs) (startD N ds) _ (Go.refl ..) o (.start r) ((b _).mono (fun k u p => ?_) (fun _ _ z => z) q)
  cases u with
  | nx δ => exact fun σ F1 H1 _ k1 o1 _ => p .non F1 H1 k1 o1 .non
  | rt d => exact fun v F1 H1 k1 o1 r1 => p v F1 H1 k1 o1 r1
  | bk δ => exact p.elim
  | ct δ => exact p.elim
theorem fn_lx {CX : CXT} {N ps : List Str} {k : Nat} {t : TS} {b : List Sl → W Out} (F : FunD K x qual params body scope dvs kws f fd) (S : FnScope N ps scope) (hl : LS K t b)
    (hb : ∀ (cdv : Value) (A : Around) (outer : List Env) (s : Shared) (H : Hp) (E : XK), Room k (A.deeper (envOfC qual scope s.heap.objs.size f cdv)) → PSs (cxOf CX P w K mg base N qual scope f cdv A outer s H E).nox body t) :
    FnOk P w K mg base CX (k + 1) f fd ps (Pr K ps.length (dBody N b)) :=
  F.ok S Pr.len fun cdv A outer s H vs Q E hr h => ⟨t, (hb cdv A outer s H E hr).nox, body_lx hl h⟩
end
end Lx
set_option Elab.async false
set_option linter.all false
set_option maxRecDepth 100000
set_option maxHeartbeats 2000000
/-! Lx4: operations on data. -/
namespace Lx
open PySem L2

/-! ### plain data for == and repr -/
mutual
def toP : D → Option PyData
  | .non => some .none
  | .bl b => some (.bool b)
  | .int i => some (.int i)
  | .str x => some (.str x)
  | .lst xs => (toPs xs).map .list
  | .tup xs => (toPs xs).map .tuple
  | .obj _ _ => none
  | .pen => none
  | .sct _ => none
  | .adr _ => none
def toPs : List D → Option (List PyData)
  | [] => some []
  | d :: ds => (toP d).bind fun p => (toPs ds).map fun ps => p :: ps
end
section
variable {K : PySem.W.Frag} {pn : Addr} {F H : Hp}
mutual
theorem Rep.dp (e : Le F H) : ∀ {v : V} {d : D} {p : PyData}, Rep K pn F v d → toP d = some p → Dp K H v p
  | _, _, _, .non, h => by unfold toP at h; cases h; exact .non
  | _, _, _, .bl b, h => by unfold toP at h; cases h; exact .bl b
  | _, _, _, .int i, h => by unfold toP at h; cases h; exact .int i
  | _, _, _, .str x, h => by unfold toP at h; cases h; exact .str x
  | _, _, _, .lst (ds := ds) q r, h => by
    unfold toP at h
    cases e1 : toPs ds with
    | none => rw [e1] at h; cases h
    | some ps => rw [e1] at h; cases h; exact .lst (SqL.of (e _ _ q)) (RepL.dp e r e1)
  | _, _, _, .tup (ds := ds) q r, h => by
    unfold toP at h
    cases e1 : toPs ds with
    | none => rw [e1] at h; cases h
    | some ps => rw [e1] at h; cases h; exact .tup (e.sqT q) (RepL.dp e r e1)
  | _, _, _, .obj _ _ _ _, h => by unfold toP at h; cases h
  | _, _, _, .adr _, h => by unfold toP at h; cases h
  | _, _, _, .pen, h => by unfold toP at h; cases h
  | _, _, _, .sct _, h => by unfold toP at h; cases h
theorem RepL.dp (e : Le F H) : ∀ {vs : List V} {ds : List D} {ps : List PyData}, RepL K pn F vs ds → toPs ds = some ps → DpAll K H vs ps
  | _, _, _, .nil, h => by unfold toPs at h; cases h; exact .nil
  | _, _, _, .cons (d := d) (ds := ds) a r, h => by
    unfold toPs at h
    cases e1 : toP d with
    | none => rw [e1] at h; cases h
    | some p =>
      rw [e1] at h
      cases e2 : toPs ds with
      | none => rw [e2] at h; cases h
      | some ps => rw [e2] at h; cases h; exact .cons (Rep.dp e a e1) (RepL.dp e r e2)
end
end

/-! ### arithmetic, + * of texts and lists -/
@[reducible] def addD : D → D → W D
  | .int i, .int j => W.ret (.int (i + j))
  | .str x, .str y => W.need (x.length + y.length ≤ sizeLine) (W.ret (.str (x ++ y)))
  | .lst xs, .lst ys => W.need (xs.length + ys.length ≤ sizeLine) (W.ret (.lst (xs ++ ys)))
  | _, _ => W.stuck
@[reducible] def subD : D → D → W D
  | .int i, .int j => W.ret (.int (i - j))
  | _, _ => W.stuck
@[reducible] def mulD : D → D → W D
  | .int i, .int j => W.need (CMul i j) (W.ret (.int (i * j)))
  | _, _ => W.stuck
@[reducible] def modD : D → D → W D
  | .int i, .int j => W.need (0 < j) (W.ret (.int (i % j)))
  | _, _ => W.stuck
@[reducible] def fdivD : D → D → W D
  | .int i, .int j => W.need (CDiv i j) (W.ret (.int (i / j)))
  | _, _ => W.stuck
@[reducible] def negD : D → W D
  | .int i => W.ret (.int (-i))
  | _ => W.stuck
def rAddU : R2 := fun x y H Q => (rI0 fun i j => .int (i + j)) x y H Q ∨ (∃ i j, x = .str i ∧ y = .str j ∧ i.length + j.length ≤ sizeLine ∧ Q (.str (i ++ j)) H) ∨ rCat x y H Q
section
variable {X : Cx} {K : PySem.W.Frag}
theorem op_addU : OpR X (binaryOp .Add) rAddU := op_add.or (op_add_str.or op_cat)
theorem lo_add : LO2 K rAddU addD := fun pn F H n v w x y Q o rx ry h => by
  cases rx with
  | int i => cases ry with
    | int j => exact .inl ⟨i, j, rfl, rfl, h _ F H (Go.refl ..) o (.int _)⟩
    | _ => exact h.elim
  | str i => cases ry with
    | str j => exact .inr (.inl ⟨i, j, rfl, rfl, h.1, h.2 _ F H (Go.refl ..) o (.str _)⟩)
    | _ => exact h.elim
  | lst a r => cases ry with
    | lst b q =>
      refine .inr (.inr ⟨_, _, _, _, rfl, rfl, o.fro _ _ a, o.fro _ _ b, by rw [r.len, q.len]; exact h.1, fun p hp => ?_⟩)
      obtain ⟨o2, g2⟩ := o.lay (o := .lst (_ ++ _)) hp
      exact h.2 (.ref p) _ _ g2 o2 (.lst upd_same ((r.up g2.sub).app (q.up g2.sub)))
    | _ => exact h.elim
  | _ => exact h.elim
theorem lo_sub : LO2 K (rI0 fun i j => .int (i - j)) subD := fun pn F H n v w x y Q o rx ry h => by
  cases rx with
  | int i => cases ry with
    | int j => exact ⟨i, j, rfl, rfl, h _ F H (Go.refl ..) o (.int _)⟩
    | _ => exact h.elim
  | _ => exact h.elim
theorem lo_mul : LO2 K (rI CMul fun i j => .int (i * j)) mulD := fun pn F H n v w x y Q o rx ry h => by
  cases rx with
  | int i => cases ry with
    | int j => exact ⟨i, j, rfl, rfl, h.1, h.2 _ F H (Go.refl ..) o (.int _)⟩
    | _ => exact h.elim
  | _ => exact h.elim
theorem lo_mod : LO2 K (rI (fun _ j => 0 < j) fun i j => .int (i % j)) modD := fun pn F H n v w x y Q o rx ry h => by
  cases rx with
  | int i => cases ry with
    | int j => exact ⟨i, j, rfl, rfl, h.1, h.2 _ F H (Go.refl ..) o (.int _)⟩
    | _ => exact h.elim
  | _ => exact h.elim
theorem lo_fdiv : LO2 K (rI CDiv fun i j => .int (i / j)) fdivD := fun pn F H n v w x y Q o rx ry h => by
  cases rx with
  | int i => cases ry with
    | int j => exact ⟨i, j, rfl, rfl, h.1, h.2 _ F H (Go.refl ..) o (.int _)⟩
    | _ => exact h.elim
  | _ => exact h.elim
theorem lo_neg : LO1 K (rU fun i => .int (-i)) negD := fun pn F H n v x Q o rx h => by
  cases rx with
  | int i => exact ⟨i, rfl, h _ F H (Go.refl ..) o (.int _)⟩
  | _ => exact h.elim

/-! ### comparisons -/
@[reducible] def eqD : D → D → W D
  | .int i, .int j => W.ret (.bl (decide (i = j)))
  | .str x, .str y => W.ret (.bl (decide (x = y)))
  | .bl a, .bl b => W.ret (.bl (decide (a = b)))
  | x, y => match toP x, toP y with
    | some a, some b => W.need (SeqAt.shaped a = true ∧ SeqAt.shaped b = true) (W.ret (.bl (PyData.eqv a b)))
    | _, _ => W.stuck
@[reducible] def neD : D → D → W D
  | .int i, .int j => W.ret (.bl (!decide (i = j)))
  | .str x, .str y => W.ret (.bl (!decide (x = y)))
  | .bl a, .bl b => W.ret (.bl (!decide (a = b)))
  | x, y => match toP x, toP y with
    | some a, some b => W.need (SeqAt.shaped a = true ∧ SeqAt.shaped b = true) (W.ret (.bl (!PyData.eqv a b)))
    | _, _ => W.stuck
def rEqU (K : PySem.W.Frag) : R2 := fun x y H Q => rEq x y H Q ∨ rEqD K x y H Q
def rNeU (K : PySem.W.Frag) : R2 := fun x y H Q => rNe x y H Q ∨ rNeD K x y H Q
theorem op_eqU (hu : X.A.units + 64 < cLine) : OpR X (compareOp .Eq) (rEqU X.K) := op_eq.or (op_eqD hu)
theorem op_neU (hu : X.A.units + 64 < cLine) : OpR X (compareOp .NotEq) (rNeU X.K) := op_ne.or (op_neD hu)
theorem eq_gen {pn : Addr} {F H : Hp} {n : Nat} {v w : V} {x y : D} {Q : VK} (o : Ok K pn F H n) (rx : Rep K pn F v x) (ry : Rep K pn F w y)
    (h : (match toP x, toP y with | some a, some b => W.need (SeqAt.shaped a = true ∧ SeqAt.shaped b = true) (W.ret (D.bl (PyData.eqv a b))) | _, _ => (W.stuck : W D)).wp n (Post K pn F H Q) noX) : rEqU K v w H Q := by
  cases ex : toP x with
  | none => rw [ex] at h; exact h.elim
  | some a => cases ey : toP y with
    | none => rw [ex, ey] at h; exact h.elim
    | some b =>
      rw [ex, ey] at h
      exact .inr ⟨a, b, rx.dp o.fro ex, ry.dp o.fro ey, h.1.1, h.1.2, h.2 _ F H (Go.refl ..) o (.bl _)⟩
theorem ne_gen {pn : Addr} {F H : Hp} {n : Nat} {v w : V} {x y : D} {Q : VK} (o : Ok K pn F H n) (rx : Rep K pn F v x) (ry : Rep K pn F w y)
    (h : (match toP x, toP y with | some a, some b => W.need (SeqAt.shaped a = true ∧ SeqAt.shaped b = true) (W.ret (D.bl (!PyData.eqv a b))) | _, _ => (W.stuck : W D)).wp n (Post K pn F H Q) noX) : rNeU K v w H Q := by
  cases ex : toP x with
  | none => rw [ex] at h; exact h.elim
  | some a => cases ey : toP y with
    | none => rw [ex, ey] at h; exact h.elim
    | some b =>
      rw [ex, ey] at h
      exact .inr ⟨a, b, rx.dp o.fro ex, ry.dp o.fro ey, h.1.1, h.1.2, h.2 _ F H (Go.refl ..) o (.bl _)⟩
theorem vdec_int {i j : Int} : decide (V.int i = V.int j) = decide (i = j) := by simp
theorem vdec_str {i j : Str} : decide (V.str i = V.str j) = decide (i = j) := by simp
theorem vdec_bl {i j : Bool} : decide (V.bl i = V.bl j) = decide (i = j) := by simp
theorem lo_eq : LO2 K (rEqU K) eqD := fun pn F H n v w x y Q o rx ry h => by
  have r2 := ry
  cases rx with
  | int i => cases ry with
    | int j => exact .inl ⟨rfl, by rw [vdec_int]; exact h _ F H (Go.refl ..) o (.bl _)⟩
    | _ => exact eq_gen o (.int i) r2 h
  | str i => cases ry with
    | str j => exact .inl ⟨rfl, by rw [vdec_str]; exact h _ F H (Go.refl ..) o (.bl _)⟩
    | _ => exact eq_gen o (.str i) r2 h
  | bl i => cases ry with
    | bl j => exact .inl ⟨rfl, by rw [vdec_bl]; exact h _ F H (Go.refl ..) o (.bl _)⟩
    | _ => exact eq_gen o (.bl i) r2 h
  | non => exact eq_gen o .non ry (by cases ry <;> exact h)
  | lst a r => exact eq_gen o (.lst a r) ry (by cases ry <;> exact h)
  | tup a r => exact eq_gen o (.tup a r) ry (by cases ry <;> exact h)
  | obj a u z r => exact eq_gen o (.obj a u z r) ry (by cases ry <;> exact h)
  | adr a => exact eq_gen o (.adr a) ry (by cases ry <;> exact h)
  | pen => exact eq_gen o .pen ry (by cases ry <;> exact h)
  | sct a => exact eq_gen o (.sct a) ry (by cases ry <;> exact h)
theorem lo_ne : LO2 K (rNeU K) neD := fun pn F H n v w x y Q o rx ry h => by
  have r2 := ry
  cases rx with
  | int i => cases ry with
    | int j => exact .inl ⟨rfl, by rw [vdec_int]; exact h _ F H (Go.refl ..) o (.bl _)⟩
    | _ => exact ne_gen o (.int i) r2 h
  | str i => cases ry with
    | str j => exact .inl ⟨rfl, by rw [vdec_str]; exact h _ F H (Go.refl ..) o (.bl _)⟩
    | _ => exact ne_gen o (.str i) r2 h
  | bl i => cases ry with
    | bl j => exact .inl ⟨rfl, by rw [vdec_bl]; exact h _ F H (Go.refl ..) o (.bl _)⟩
    | _ => exact ne_gen o (.bl i) r2 h
  | non => exact ne_gen o .non ry (by cases ry <;> exact h)
  | lst a r => exact ne_gen o (.lst a r) ry (by cases ry <;> exact h)
  | tup a r => exact ne_gen o (.tup a r) ry (by cases ry <;> exact h)
  | obj a u z r => exact ne_gen o (.obj a u z r) ry (by cases ry <;> exact h)
  | adr a => exact ne_gen o (.adr a) ry (by cases ry <;> exact h)
  | pen => exact ne_gen o .pen ry (by cases ry <;> exact h)
  | sct a => exact ne_gen o (.sct a) ry (by cases ry <;> exact h)
@[reducible] def cmpD (c : Int → Int → Bool) : D → D → W D
  | .int i, .int j => W.ret (.bl (c i j))
  | _, _ => W.stuck
@[reducible] def ltD : D → D → W D := cmpD fun i j => decide (i < j)
@[reducible] def leD : D → D → W D := cmpD fun i j => decide (i ≤ j)
@[reducible] def gtD : D → D → W D := cmpD fun i j => decide (j < i)
@[reducible] def geD : D → D → W D := cmpD fun i j => decide (j ≤ i)
theorem lo_cmp {c : Int → Int → Bool} : LO2 K (rI0 fun i j => .bl (c i j)) (cmpD c) := fun pn F H n v w x y Q o rx ry h => by
  cases rx with
  | int i => cases ry with
    | int j => exact ⟨i, j, rfl, rfl, h _ F H (Go.refl ..) o (.bl _)⟩
    | _ => exact h.elim
  | _ => exact h.elim
/-! is None -/
@[reducible] def isND : D → D → W D
  | .non, .non => W.ret (.bl true)
  | _, .non => W.ret (.bl false)
  | _, _ => W.stuck
@[reducible] def notND : D → D → W D
  | .non, .non => W.ret (.bl false)
  | _, .non => W.ret (.bl true)
  | _, _ => W.stuck
theorem lo_isN : LO2 K (fun x y H Q => y = .non ∧ Q (.bl (decide (x = .non))) H) isND := fun pn F H n v w x y Q o rx ry h => by
  cases ry with
  | non => cases rx <;> first
    | exact ⟨rfl, by rw [decide_eq_true (by rfl)]; exact h _ F H (Go.refl ..) o (.bl _)⟩
    | exact ⟨rfl, by rw [decide_eq_false (by intro z; cases z)]; exact h _ F H (Go.refl ..) o (.bl _)⟩
  | _ => cases rx <;> exact h.elim
theorem lo_notN : LO2 K (fun x y H Q => y = .non ∧ Q (.bl (!decide (x = .non))) H) notND := fun pn F H n v w x y Q o rx ry h => by
  cases ry with
  | non => cases rx <;> first
    | exact ⟨rfl, by rw [decide_eq_true (by rfl)]; exact h _ F H (Go.refl ..) o (.bl _)⟩
    | exact ⟨rfl, by rw [decide_eq_false (by intro z; cases z)]; exact h _ F H (Go.refl ..) o (.bl _)⟩
  | _ => cases rx <;> exact h.elim

/-! in -/
def flatD : D → Bool
  | .non => true | .bl _ => true | .int _ => true | .str _ => true
  | _ => false
def eqF : D → D → Bool
  | .non, .non => true
  | .bl a, .bl b => a == b
  | .bl a, .int b => (if a then 1 else 0) == b
  | .int a, .bl b => a == (if b then 1 else 0)
  | .int a, .int b => a == b
  | .str a, .str b => a == b
  | _, _ => false
def inF (x : D) (ys : List D) : Bool := ys.any fun y => eqF y x
def inS (x y : Str) : Bool := !(Builtin.Str.occurrences y x 0 y.length 1).isEmpty
@[reducible] def inD (neg : Bool) : D → D → W D
  | .str x, .str y => W.ret (.bl (if neg then !inS x y else inS x y))
  | x, .lst ys => W.need (flatD x = true ∧ ys.all flatD = true) (W.ret (.bl (if neg then !inF x ys else inF x ys)))
  | x, .tup ys => W.need (flatD x = true ∧ ys.all flatD = true) (W.ret (.bl (if neg then !inF x ys else inF x ys)))
  | _, _ => W.stuck
theorem flat_of {pn : Addr} {F : Hp} {v : V} {d : D} (r : Rep K pn F v d) (h : flatD d = true) : flatV v = true := by
  cases r <;> first | rfl | cases h
theorem flats_of {pn : Addr} {F : Hp} : ∀ {vs : List V} {ds : List D}, RepL K pn F vs ds → ds.all flatD = true → vs.all flatV = true
  | _, _, .nil, _ => rfl
  | _, _, .cons a r, h => by
    rw [List.all_cons, Bool.and_eq_true] at h ⊢
    exact ⟨flat_of a h.1, flats_of r h.2⟩
theorem eqF_of {pn : Addr} {F : Hp} {v w : V} {x y : D} (rx : Rep K pn F v x) (ry : Rep K pn F w y) (hx : flatD x = true) (hy : flatD y = true) : eqV v w = eqF x y := by
  cases rx <;> first | (cases ry <;> first | rfl | cases hy) | cases hx
theorem inF_of {pn : Addr} {F : Hp} {v : V} {x : D} (rx : Rep K pn F v x) (hx : flatD x = true) : ∀ {vs : List V} {ds : List D}, RepL K pn F vs ds → ds.all flatD = true → inV v vs = inF x ds
  | _, _, .nil, _ => rfl
  | _, _, .cons a r, h => by
    rw [List.all_cons, Bool.and_eq_true] at h
    unfold inV inF
    rw [List.any_cons, List.any_cons, eqF_of a rx h.1 hx]
    exact congrArg _ (inF_of rx hx r h.2)
def rInU (K : PySem.W.Frag) (neg : Bool) : R2 := fun x y H Q => (∃ i j, x = .str i ∧ y = .str j ∧ Q (.bl (if neg then !inS i j else inS i j)) H) ∨ rIn K neg x y H Q
theorem op_inU : OpR X (compareOp .In) (rInU X.K false) := op_in_str.or op_in_seq
theorem op_notInU : OpR X (compareOp .NotIn) (rInU X.K true) := op_notin_str.or op_notIn_seq
theorem lo_in {neg : Bool} : LO2 K (rInU K neg) (inD neg) := fun pn F H n v w x y Q o rx ry h => by
  cases ry with
  | str j => cases rx with
    | str i => exact .inl ⟨i, j, rfl, rfl, h _ F H (Go.refl ..) o (.bl _)⟩
    | _ => exact h.elim
  | @lst _ _ ys b q =>
    have h' : (W.need (flatD x = true ∧ ys.all flatD = true) (W.ret (D.bl (if neg then !inF x ys else inF x ys)))).wp n (Post K pn F H Q) noX := by cases rx <;> exact h
    exact .inr ⟨_, _, rfl, .inl (SqL.of (o.fro _ _ b)), flat_of rx h'.1.1, flats_of q h'.1.2, by rw [inF_of rx h'.1.1 q h'.1.2]; exact h'.2 _ F H (Go.refl ..) o (.bl _)⟩
  | @tup _ _ ys b q =>
    have h' : (W.need (flatD x = true ∧ ys.all flatD = true) (W.ret (D.bl (if neg then !inF x ys else inF x ys)))).wp n (Post K pn F H Q) noX := by cases rx <;> exact h
    exact .inr ⟨_, _, rfl, .inr (o.fro.sqT b), flat_of rx h'.1.1, flats_of q h'.1.2, by rw [inF_of rx h'.1.1 q h'.1.2]; exact h'.2 _ F H (Go.refl ..) o (.bl _)⟩
  | _ => cases rx <;> exact h.elim

/-! ### subscripts -/
@[reducible] def ixD : D → D → W D
  | .lst xs, .int i => match atI xs i with | some d => W.ret d | none => W.stuck
  | .tup xs, .int i => match atI xs i with | some d => W.ret d | none => W.stuck
  | .str z, .int i => W.need (z.length ≤ sizeLine) (match atI z.cps.toList i with | some c => W.ret (.str ⟨#[c]⟩) | none => W.stuck)
  | _, _ => W.stuck
theorem RepL.atI {pn : Addr} {F : Hp} {vs : List V} {ds : List D} {i : Int} {d : D} (r : RepL K pn F vs ds) (h : L2.atI ds i = some d) : ∃ v, L2.atI vs i = some v ∧ Rep K pn F v d := by
  unfold L2.atI at h ⊢
  rw [r.len]
  cases e : ixN ds.length i with
  | none => rw [e] at h; cases h
  | some j => rw [e] at h; exact r.get h
theorem lo_ix : LO2 K (rIx K) ixD := fun pn F H n v w x y Q o rx ry h => by
  cases ry with
  | int i => cases rx with
    | lst a r =>
      simp only [ixD] at h
      split at h
      · rename_i d e
        obtain ⟨u, hu, ru⟩ := r.atI e
        exact .inl ⟨_, _, i, u, rfl, rfl, SqL.of (o.fro _ _ a), hu, h u F H (Go.refl ..) o ru⟩
      · exact h.elim
    | tup a r =>
      simp only [ixD] at h
      split at h
      · rename_i d e
        obtain ⟨u, hu, ru⟩ := r.atI e
        exact .inr (.inl ⟨_, _, i, u, rfl, rfl, o.fro.sqT a, hu, h u F H (Go.refl ..) o ru⟩)
      · exact h.elim
    | str z =>
      obtain ⟨h1, h⟩ := h
      split at h
      · rename_i c e
        exact .inr (.inr ⟨z, i, c, rfl, rfl, h1, e, h _ F H (Go.refl ..) o (.str _)⟩)
      · exact h.elim
    | _ => exact h.elim
  | _ => cases rx <;> exact h.elim
/-! slices -/
def cutL {α : Type} (xs : List α) (lo hi : Option Int) : List α := (xs.drop (HT.sIx xs.length 0 lo)).take (HT.sIx xs.length xs.length hi - HT.sIx xs.length 0 lo)
theorem RepL.cut {pn : Addr} {F : Hp} {vs : List V} {ds : List D} (r : RepL K pn F vs ds) (lo hi : Option Int) : RepL K pn F (cutV vs lo hi) (cutL ds lo hi) := by
  unfold cutV cutL
  rw [r.len]
  exact (r.drop _).take _
@[reducible] def slD : D → Option Int → Option Int → W D
  | .str z, lo, hi => W.need (z.length ≤ sizeLine) (W.ret (.str (cutS z lo hi)))
  | .lst xs, lo, hi => W.ret (.lst (cutL xs lo hi))
  | .tup xs, lo, hi => W.need (¬ (HT.sIx xs.length 0 lo = 0 ∧ HT.sIx xs.length xs.length hi = xs.length)) (W.ret (.tup (cutL xs lo hi)))
  | _, _, _ => W.stuck
def rSlU (K : PySem.W.Frag) : V → Option Int → Option Int → Hp → VK → Prop := fun x lo hi H Q => rSlS x lo hi H Q ∨ rSlL K x lo hi H Q ∨ rSlT K x lo hi H Q
theorem sl_U : SlR X (rSlU X.K) := sl_str.or (sl_list.or sl_tup)
def LP (K : PySem.W.Frag) (to : TO) (f : List Sl → W (Option Int)) : Prop := ∀ (pn : Addr) (H0 F H : Hp) (n : Nat) (σ : L2.St) (δ : List Sl) (Q : Option Int → Hp → Prop), Ok K pn F H n → Slo K pn H0 F H σ δ →
  (f δ).wp n (fun m b => ∀ F' H', Go pn F H F' H' → Ok K pn F' H' m → Q b H') noX → to σ H Q
@[reducible] def dNoPart : List Sl → W (Option Int) := fun _ => W.ret none
@[reducible] def dPart (f : List Sl → W D) : List Sl → W (Option Int) := fun δ => (f δ).bind fun d => match d with | .int i => W.ret (some i) | _ => W.stuck
theorem lp_none : LP K tNoPart dNoPart := fun pn H0 F H n σ δ Q o s h => h F H (Go.refl ..) o
theorem lp_some {te : TE} {f : List Sl → W D} (he : LE K te f) : LP K (tPart te) (dPart f) := fun pn H0 F H n σ δ Q o s h => by
  refine he pn H0 F H n σ δ _ o s ((f δ).mono (fun m x q => ?_) (fun _ _ z => z) h)
  intro v F1 H1 g1 o1 r1
  cases r1 with
  | int i => exact ⟨i, rfl, q F1 H1 g1 o1⟩
  | _ => exact q.elim
@[reducible] def dSl (f : List Sl → W D) (a b : List Sl → W (Option Int)) : List Sl → W D := fun δ => (f δ).bind fun x => (a δ).bind fun lo => (b δ).bind fun hi => slD x lo hi
theorem le_sl {te : TE} {ta tb : TO} {f : List Sl → W D} {a b : List Sl → W (Option Int)} (he : LE K te f) (ha : LP K ta a) (hb : LP K tb b) : LE K (tSl (rSlU K) te ta tb) (dSl f a b) := fun pn H0 F H n σ δ Q o s h => by
  refine he pn H0 F H n σ δ _ o s ((f δ).mono (fun m x q => ?_) (fun _ _ z => z) h)
  intro v F1 H1 g1 o1 r1
  refine ha pn H0 F1 H1 m σ δ _ o1 (s.go g1) ((a δ).mono (fun m2 lo q2 => ?_) (fun _ _ z => z) q)
  intro F2 H2 g2 o2
  refine hb pn H0 F2 H2 m2 σ δ _ o2 ((s.go g1).go g2) ((b δ).mono (fun m3 hi q3 => ?_) (fun _ _ z => z) q2)
  intro F3 H3 g3 o3
  have g03 := (g1.trans g2 o2.fpn).trans g3 o3.fpn
  have r3 := (r1.up g2.sub).up g3.sub
  cases r3 with
  | str z => exact .inl ⟨z, rfl, q3.1, q3.2 _ F3 H3 g03 o3 (.str _)⟩
  | lst c r =>
    refine .inr (.inl ⟨_, _, rfl, SqL.of (o3.fro _ _ c), fun p hp => ?_⟩)
    obtain ⟨o4, g4⟩ := o3.lay (o := .lst (cutV _ lo hi)) hp
    exact q3 (.ref p) _ _ (g03.trans g4 o4.fpn) o4 (.lst upd_same ((r.cut lo hi).up g4.sub))
  | tup c r =>
    refine .inr (.inr ⟨_, _, rfl, o3.fro.sqT c, by rw [r.len]; exact q3.1, fun p hp => ?_⟩)
    obtain ⟨o4, g4⟩ := o3.lay (o := .tup (cutV _ lo hi)) hp
    exact q3.2 (.ref p) _ _ (g03.trans g4 o4.fpn) o4 (.tup (SqT.of upd_same) ((r.cut lo hi).up g4.sub))
  | _ => exact q3.elim

/-! ### built-in functions -/
theorem RepL.one {pn : Addr} {F : Hp} {vs : List V} {d : D} (r : RepL K pn F vs [d]) : ∃ v, vs = [v] ∧ Rep K pn F v d := by
  cases r with
  | cons a b => cases b; exact ⟨_, rfl, a⟩
theorem RepL.two {pn : Addr} {F : Hp} {vs : List V} {d e : D} (r : RepL K pn F vs [d, e]) : ∃ v w, vs = [v, w] ∧ Rep K pn F v d ∧ Rep K pn F w e := by
  cases r with
  | cons a b => obtain ⟨w, rfl, rw⟩ := b.one; exact ⟨_, w, rfl, a, rw⟩
@[reducible] def lenD : List D → W D
  | [.str z] => W.need (z.length ≤ sizeLine) (W.ret (.int z.length))
  | [.lst xs] => W.ret (.int xs.length)
  | [.tup xs] => W.ret (.int xs.length)
  | [.sct xs] => W.ret (.int xs.length)
  | _ => W.stuck
theorem lo_len : LOn K (fun xs H Q => ∃ x n, xs = [x] ∧ LenV K x H n ∧ Q (.int n) H) lenD := fun pn F H n vs xs Q o r h => by
  unfold lenD at h
  split at h
  · obtain ⟨v, rfl, rv⟩ := r.one
    cases rv
    exact ⟨_, _, rfl, ⟨h.1, rfl⟩, h.2 _ F H (Go.refl ..) o (.int _)⟩
  · obtain ⟨v, rfl, rv⟩ := r.one
    cases rv with
    | lst a q => exact ⟨_, _, rfl, .inl ⟨_, SqL.of (o.fro _ _ a), q.len.symm⟩, h _ F H (Go.refl ..) o (.int _)⟩
  · obtain ⟨v, rfl, rv⟩ := r.one
    cases rv with
    | tup a q => exact ⟨_, _, rfl, .inr ⟨_, o.fro.sqT a, q.len.symm⟩, h _ F H (Go.refl ..) o (.int _)⟩
  · obtain ⟨v, rfl, rv⟩ := r.one
    cases rv with
    | sct a => exact ⟨_, _, rfl, .inl ⟨_, o.fro.sqL a, by simp⟩, h _ F H (Go.refl ..) o (.int _)⟩
  · exact h.elim
@[reducible] def listD : List D → W D
  | [.lst xs] => W.ret (.lst xs)
  | [.tup xs] => W.ret (.lst xs)
  | _ => W.stuck
theorem lo_list : LOn K (fun xs H Q => ∃ p ys, xs = [.ref p] ∧ (SqL K H p ys ∨ SqT K H p ys) ∧ ∀ l, H l = none → Q (.ref l) (upd H l (.lst ys))) listD := fun pn F H n vs xs Q o r h => by
  unfold listD at h
  split at h
  · obtain ⟨v, rfl, rv⟩ := r.one
    cases rv with
    | lst a q =>
      refine ⟨_, _, rfl, .inl (SqL.of (o.fro _ _ a)), fun l hl => ?_⟩
      obtain ⟨o4, g4⟩ := o.lay (o := .lst _) hl
      exact h (.ref l) _ _ g4 o4 (.lst upd_same (q.up g4.sub))
  · obtain ⟨v, rfl, rv⟩ := r.one
    cases rv with
    | tup a q =>
      refine ⟨_, _, rfl, .inr (o.fro.sqT a), fun l hl => ?_⟩
      obtain ⟨o4, g4⟩ := o.lay (o := .lst _) hl
      exact h (.ref l) _ _ g4 o4 (.lst upd_same (q.up g4.sub))
  · exact h.elim
/-- the truth values of a list -/
def bools : List D → Option (List Bool)
  | [] => some []
  | .bl b :: r => (bools r).map (b :: ·)
  | _ => none
theorem bools_rep {pn : Addr} {F : Hp} : ∀ {vs : List V} {ds : List D} {bs : List Bool}, RepL K pn F vs ds → bools ds = some bs → vs = bs.map V.bl
  | _, _, _, .nil, h => by cases h; rfl
  | _, _, _, .cons (d := d) (ds := ds) a r, h => by
    cases a with
    | bl b =>
      unfold bools at h
      cases e : bools ds with
      | none => rw [e] at h; cases h
      | some bs => rw [e] at h; cases h; rw [bools_rep r e]; rfl
    | _ => unfold bools at h; cases h
@[reducible] def allD : List D → W D
  | [.lst xs] => match bools xs with | some bs => W.ret (.bl (bs.all id)) | none => W.stuck
  | _ => W.stuck
@[reducible] def anyD : List D → W D
  | [.lst xs] => match bools xs with | some bs => W.ret (.bl (bs.any id)) | none => W.stuck
  | _ => W.stuck
theorem lo_all : LOn K (rAll K) allD := fun pn F H n vs xs Q o r h => by
  unfold allD at h
  split at h
  · obtain ⟨v, rfl, rv⟩ := r.one
    split at h
    · rename_i bs e
      cases rv with
      | lst a q => exact ⟨_, bs, rfl, by rw [← bools_rep q e]; exact SqL.of (o.fro _ _ a), h _ F H (Go.refl ..) o (.bl _)⟩
    · exact h.elim
  · exact h.elim
theorem lo_any : LOn K (rAny K) anyD := fun pn F H n vs xs Q o r h => by
  unfold anyD at h
  split at h
  · obtain ⟨v, rfl, rv⟩ := r.one
    split at h
    · rename_i bs e
      cases rv with
      | lst a q => exact ⟨_, bs, rfl, by rw [← bools_rep q e]; exact SqL.of (o.fro _ _ a), h _ F H (Go.refl ..) o (.bl _)⟩
    · exact h.elim
  · exact h.elim
@[reducible] def absD : List D → W D
  | [.int i] => W.ret (.int (if i < 0 then -i else i))
  | _ => W.stuck
theorem lo_abs : LOn K (fun xs H Q => ∃ i, xs = [.int i] ∧ Q (.int (if i < 0 then -i else i)) H) absD := fun pn F H n vs xs Q o r h => by
  unfold absD at h
  split at h
  · exact ⟨_, r.int1, h _ F H (Go.refl ..) o (.int _)⟩
  · exact h.elim

/-! ### methods of texts -/
def LOm (K : PySem.W.Frag) (r : V → List V → Hp → VK → Prop) (g : Str → List D → W D) : Prop := ∀ (pn : Addr) (F H : Hp) (n : Nat) (z : Str) (vs : List V) (xs : List D) (Q : VK), Ok K pn F H n → RepL K pn F vs xs → (g z xs).wp n (Post K pn F H Q) noX → r (.str z) vs H Q
@[reducible] def dMs (g : Str → List D → W D) (fo : List Sl → W D) (f : List Sl → W (List D)) : List Sl → W D := fun δ => (fo δ).bind fun x => match x with | .str z => (f δ).bind (g z) | _ => W.stuck
theorem le_ms {r : V → List V → Hp → VK → Prop} {g : Str → List D → W D} {to : TE} {t : TA} {fo : List Sl → W D} {f : List Sl → W (List D)} (hr : LOm K r g) (ho : LE K to fo) (ha : LA K t f) : LE K (tBM K "str" r to t) (dMs g fo f) := fun pn H0 F H n σ δ Q o s h => by
  refine ho pn H0 F H n σ δ _ o s ((fo δ).mono (fun m x q => ?_) (fun _ _ z => z) h)
  intro v F1 H1 g1 o1 r1
  cases r1 with
  | str z =>
    refine ⟨rfl, ha pn H0 F1 H1 m σ δ _ o1 (s.go g1) ((f δ).mono (fun m2 ys q2 => ?_) (fun _ _ z => z) q)⟩
    intro ws F2 H2 g2 o2 r2
    exact hr pn F2 H2 m2 z ws ys Q o2 r2 ((g z ys).mono (fun _ _ p => (Post.of g1 p).of g2) (fun _ _ z => z) q2)
  | _ => exact q.elim
@[reducible] def swD (f : Str → Str → Bool) : Str → List D → W D := fun z xs => match xs with | [.str y] => W.ret (.bl (f z y)) | _ => W.stuck
theorem lo_sw {f : Str → Str → Bool} : LOm K (fun x xs H Q => ∃ a b, x = .str a ∧ xs = [.str b] ∧ Q (.bl (f a b)) H) (swD f) := fun pn F H n z vs xs Q o r h => by
  unfold swD at h
  split at h
  · obtain ⟨v, rfl, rv⟩ := r.one
    cases rv
    exact ⟨z, _, rfl, rfl, h _ F H (Go.refl ..) o (.bl _)⟩
  · exact h.elim
def txts : List D → Option (List Str)
  | [] => some []
  | .str b :: r => (txts r).map (b :: ·)
  | _ => none
theorem txts_rep {pn : Addr} {F : Hp} : ∀ {vs : List V} {ds : List D} {bs : List Str}, RepL K pn F vs ds → txts ds = some bs → vs = bs.map V.str
  | _, _, _, .nil, h => by cases h; rfl
  | _, _, _, .cons (d := d) (ds := ds) a r, h => by
    cases a with
    | str b =>
      unfold txts at h
      cases e : txts ds with
      | none => rw [e] at h; cases h
      | some bs => rw [e] at h; cases h; rw [txts_rep r e]; rfl
    | _ => unfold txts at h; cases h
@[reducible] def joinD : Str → List D → W D := fun z xs => match xs with
  | [.lst ds] => match txts ds with
    | some ys => W.need ((ys.map (·.length)).sum + ys.length * z.length ≤ 16777216) (W.ret (.str (Txt.join z ys)))
    | none => W.stuck
  | _ => W.stuck
theorem lo_join : LOm K (fun x xs H Q => ∃ a p, ∃ ys : List Str, x = .str a ∧ xs = [.ref p] ∧ (SqL K H p (ys.map V.str) ∨ SqT K H p (ys.map V.str)) ∧ (ys.map (·.length)).sum + ys.length * a.length ≤ 16777216 ∧ Q (.str (Txt.join a ys)) H) joinD := fun pn F H n z vs xs Q o r h => by
  unfold joinD at h
  split at h
  · obtain ⟨v, rfl, rv⟩ := r.one
    split at h
    · rename_i bs e
      cases rv with
      | lst a q => exact ⟨z, _, bs, rfl, rfl, .inl (by rw [← txts_rep q e]; exact SqL.of (o.fro _ _ a)), h.1, h.2 _ F H (Go.refl ..) o (.str _)⟩
    · exact h.elim
  · exact h.elim
end
end Lx
set_option Elab.async false
set_option linter.all false
set_option maxRecDepth 100000
set_option maxHeartbeats 2000000
/-! Lx5: objects: how they are made (the own class's init, super().__init__), fields, properties, methods. -/
namespace Lx
open PySem L2 PyProof.Rows

/-! ### an object in the making -/
structure Se (K : PySem.W.Frag) (pn : Addr) (c : Str) (x dx : Addr) (F H : Hp) (fs : List (Str × V)) (gs : List (Str × D)) : Prop where
  ob : H x = some (.ins (He.ga K c) dx fs)
  fx : F x = none
  ne : x ≠ pn
  rep : RepF K pn F fs gs
  na : ∀ f ∈ gs.map (·.1), NoAttr K (He.ga K c) f
  few : gs.length ≤ 900
/-- as Go, but the object at x may change -/
structure GoX (pn x : Addr) (F H F' H' : Hp) : Prop where
  keep : ∀ a o, a ≠ pn → a ≠ x → H a = some o → H' a = some o
  sub : Le F F'
  new : ∀ a o, F' a = some o → F a = none → H a = none
/-- the promise of an init: x is the new object, of a class of cl -/
def PrI (K : PySem.W.Frag) (m : Nat) (cl : List Str) (g : Addr → List (Str × D) → List D → W (List (Str × D))) : Sp := fun vs H Q _ => ∃ pn F x ws ds n c dx fs gs, vs = .ref x :: ws ∧ Ok K pn F H n ∧ RepL K pn F ws ds ∧ ds.length = m ∧ c ∈ cl ∧ Se K pn c x dx F H fs gs ∧
  (g x gs ds).wp n (fun k hs => ∀ F1 H1 es, GoX pn x F H F1 H1 → Ok K pn F1 H1 k → Se K pn c x dx F1 H1 es hs → Q .non H1) noX
theorem PrI.len {K : PySem.W.Frag} {m : Nat} {cl : List Str} {g : Addr → List (Str × D) → List D → W (List (Str × D))} (vs : List V) (H : Hp) (Q : VK) (E : XK) (h : PrI K m cl g vs H Q E) : vs.length = m + 1 := by
  obtain ⟨_, _, _, _, _, _, _, _, _, _, rfl, _, r, e, _⟩ := h
  rw [List.length_cons, r.len, e]
def startI (N : List Str) (x : Addr) (ds : List D) : List Sl := startD N (.adr x :: ds)
theorem GoX.of {pn x : Addr} {F H F' H' : Hp} (g : Go pn F H F' H') : GoX pn x F H F' H' := ⟨fun a o h _ => g.keep a o h, g.sub, g.new⟩

/-! ### the context of a def that says super() -/
structure SupScope (N ps : List Str) (sc : Scope) : Prop where
  kind : sc.kind = .function
  co : sc.isCoroutine = false
  gen : sc.isGenerator = false
  nd : N.Nodup
  pre : N.take ps.length = ps
  par : ∀ x ∈ ps, sc.names.lookup x = some .local
  noc : ∀ y ∈ sc.names, y.2 ≠ .cell
  fre : ∀ y ∈ sc.names, y.2 = .free → y.1 = "__class__"
  sup : sc.names.lookup ("super" : Str) = some .globalImplicit
  cls : sc.names.lookup ("__class__" : Str) = some .free
structure SupD (P : Program) (K : PySem.W.Frag) (x qual : Str) (params : Arguments) (body : List Stmt) (scope : Scope) (DC : Addr) (f : Addr) (fd : FuncData) : Prop where
  ex : ∃ (oc : Value) (od : Option Addr) (kV doc pm : Value) (an : Option Addr) (cda : Addr) (ct : Value) (osl : Array (Option Value)) (cc : Addr),
    fd = PySem.W.ksFn x qual params body scope .none kV doc pm an (.ref cda) ct cc ∧ K.lookup f = some ⟨oc, od, .func fd, osl⟩ ∧ PySem.W.codeIn K (.ref cda) qual = true ∧
    (∃ cl cld csl, K.lookup cc = some ⟨cl, cld, .cell (some (.ref DC)), csl⟩) ∧ ∃ ccl cdd vs ccs file tf, K.lookup cda = some ⟨ccl, cdd, .fields vs, ccs⟩ ∧ vs[2]? = some (.str file tf) ∧ ((P.main.file : Str) == file) = true
  kp : PySem.W.keepIn K (.ref f) = true
  cls : ∃ cdD, PySem.W.clsIn K DC = some cdD
  sup : PySem.W.nsIn K mainGlobals "super" = some none
  op : PySem.W.nsIn K cStatics "thirdparty.any" = some none
  top : (P.main.scope.names.lookup ("super" : Str)).isSome = false
theorem SupD.bindsN {P : Program} {K : PySem.W.Frag} {x qual : Str} {params : Arguments} {body : List Stmt} {scope : Scope} {DC f : Addr} {fd : FuncData} {ps : List Str} (F : SupD P K x qual params body scope DC f fd)
    (h : ∀ (kV doc pm : Value) (an : Option Addr) (cdv ct : Value) (cc : Addr) (us : List Value), us.length = ps.length → bindArgs (PySem.W.ksFn x qual params body scope .none kV doc pm an cdv ct cc) ⟨us, []⟩ = pure (ps.zip us)) : Binds K fd ps [] := by
  obtain ⟨oc, od, kV, doc, pm, an, cda, ct, osl, cc, rfl, _⟩ := F.ex
  exact .all (h kV doc pm an _ ct cc)
/-- of a class: what super().__init__ is, said in a def of the class at DC -/
structure SupC (K : PySem.W.Frag) (C DC f2 : Addr) : Prop where
  mro : PySem.W.mroIn K C (.ref DC) = some true
  at_ : PySem.W.ks_superIn K C DC "__init__" = some (some (.ref f2))
  ty : PySem.W.typeIn K (.ref f2) = some (.type "function")
  fn : PySem.W.fnIn K f2 = true
def cxS (CX : CXT) (P : Program) (w : World) (K : PySem.W.Frag) (mg : Str → Option Value) (base : Heap) (N : List Str) (qual : Str) (scope : Scope) (f : Addr) (cd : Value) (cc : Addr) (A : Around) (outer : List Env) (s : Shared) (H : Hp) (E : XK) : Cx where
  prog := P
  w := w
  K := K
  mg := mg
  base := base
  A := A.deeper (PySem.W.ksEnv qual scope s.heap.objs.size f cd cc)
  N := N
  s_0 := s
  H_0 := H
  env := PySem.W.ksEnv qual scope s.heap.objs.size f cd cc
  outer := outer
  stack := PySem.W.ksEnv qual scope s.heap.objs.size f cd cc :: outer
  ex := []
  calm := true
  fn := fun _ => false
  pn := []
  xe := fun e s' => wpAny (model P w) (A.deeper (PySem.W.ksEnv qual scope s.heap.objs.size f cd cc)) (leaving (PySem.W.ksEnv qual scope s.heap.objs.size f cd cc) e) (fun _ s'' => CX outer H s E e s'') (fun e' s'' => CX outer H s E e' s'') s'
theorem zip_look {x : Str} {u : Value} : ∀ {ps : List Str} {us : List Value} {i : Nat}, ps.Nodup → ps[i]? = some x → us[i]? = some u → (ps.zip us).reverse.lookup x = some u
  | [], _, _, _, h, _ => by simp at h
  | _ :: _, [], _, _, _, h => by simp at h
  | p :: ps, w :: us, 0, nd, h1, h2 => by
    simp at h1 h2; subst h1; subst h2
    rw [List.zip_cons_cons, List.reverse_cons, List.lookup_append]
    have : (ps.zip us).reverse.lookup p = none := by
      rw [List.lookup_eq_none_iff]
      intro q hq
      have hq2 := List.mem_reverse.mp hq
      have h3 : q.1 ∈ ps := (List.of_mem_zip (a := q.1) (b := q.2) hq2).1
      have h4 : p ≠ q.1 := fun e => (List.nodup_cons.mp nd).1 (e ▸ h3)
      simpa using h4
    rw [this]
    simp
  | p :: ps, w :: us, i + 1, nd, h1, h2 => by
    rw [List.zip_cons_cons, List.reverse_cons, List.lookup_append, zip_look (i := i) (List.nodup_cons.mp nd).2 (by simpa using h1) (by simpa using h2)]
    rfl
theorem inv_super {CX : CXT} {P : Program} {w : World} {K : PySem.W.Frag} {mg : Str → Option Value} {base : Heap} {N ps : List Str} {qual : Str} {scope : Scope} {f cc : Addr} {cd : Value} {A : Around} {outer : List Env} {s : Shared} {H : Hp} {E : XK} {us : List Value} {vs : List V} {h1 : Heap} {tk : Nat} {oc : Obj} {cv : Value}
    (S : SupScope N ps scope) (hd : A.handled = none) (e0 : Env0 P w K mg base A outer s H) (hl : vs.length = ps.length) (r : Vals vs us) (hc : base.get? cc = some oc) (hcv : oc.data = .cell (some cv))
    (hns : h1.Ns s.heap.objs.size (fun x => (ps.zip us).reverse.lookup x)) (hk : ∀ b o, s.heap.get? b = some o → h1.get? b = some o) :
    Inv (cxS CX P w K mg base N qual scope f cd cc A outer s H E) [] (L2.start N vs) H { s with heap := h1, toks := tk } := by
  have hpl : ps.length ≤ N.length := by have := congrArg List.length S.pre; rw [List.length_take] at this; omega
  have noA : ∀ b : Addr, b ∉ (cxS CX P w K mg base N qual scope f cd cc A outer s H E).ex := fun b z => absurd (show b ∈ ([] : List Addr) from z) (by simp)
  have hcs := (e0.bs cc oc hc)
  have onec : ∀ y c, (PySem.W.ksEnv qual scope s.heap.objs.size f cd cc).cells.lookup y = some c → y = "__class__" ∧ c = cc := fun y c h => by
    have h2 : ([(("__class__" : Str), cc)] : List (Str × Addr)).lookup y = some c := h
    rw [List.lookup_cons] at h2
    cases q : (y == ("__class__" : Str)) with
    | true => rw [q] at h2; cases h2; exact ⟨eq_of_beq q, rfl⟩
    | false => rw [q] at h2; cases h2
  refine ⟨⟨e0.mod, S.kind, rfl, rfl, Nat.le_refl _, fun y z c h1 h2 => by rw [(onec y c h1).1, (onec z c h2).1], fun y hy => ?_, fun y c h => absurd h Bool.false_ne_true, fun _ => hd, Around.frames_deeper e0.frames, .inr ⟨rfl, rfl⟩, fun b z => absurd z (noA b), e0.bs, e0.bsz, fun b _ _ => noA b, fun b z => absurd z (noA b), e0.funs, e0.frf⟩,
    rfl, e0.bare, Un.kept hk, ⟨_, hns, fun i y v h1 h2 h3 => ?_⟩, fun y c h => ?_, e0.hok.fresh (Nat.le_refl _), fun y c h => ?_, fun p hp => absurd (show p ∈ ([] : List (Addr × Obj)) from hp) (by simp), e0.hok.kept hk, ?_⟩
  · have hy : scope.names.lookup y = some .cell ∨ scope.names.lookup y = some .free := hy
    rcases hy with hy | hy
    · exact absurd rfl (S.noc _ (PySem.mem_of_lookup hy))
    · have e := S.fre _ (PySem.mem_of_lookup hy) rfl
      dsimp only at e
      subst e
      exact ⟨cc, rfl⟩
  · have hi : i < vs.length := by
      unfold L2.start at h2
      by_cases hi : i < vs.length
      · exact hi
      · rw [List.getElem?_append_right (by simpa using hi)] at h2
        rw [List.getElem?_replicate] at h2
        split at h2 <;> cases h2
    have ha : vs[i]? = some v := by
      unfold L2.start at h2
      rw [List.getElem?_append_left (by simpa using hi), List.getElem?_map] at h2
      cases e : vs[i]? with
      | none => rw [e] at h2; cases h2
      | some a => rw [e] at h2; cases h2; rfl
    obtain ⟨u, hu, rv⟩ := r.get ha
    have hp : ps[i]? = some y := by
      rw [← S.pre, List.getElem?_take_of_lt (by omega)]; exact h1
    have ndP : ps.Nodup := by rw [← S.pre]; exact S.nd.sublist (List.take_sublist _ _)
    exact ⟨u, rv, .inl ⟨S.par y (List.mem_of_getElem? hp), zip_look ndP hp hu⟩⟩
  · obtain ⟨_, rfl⟩ := onec y c h
    exact ⟨some cv, oc, hk _ _ hcs.1, hcv⟩
  · obtain ⟨_, rfl⟩ := onec y c h
    exact hcs.2
  · unfold L2.start
    show _ = N.length
    rw [List.length_append, List.length_map, List.length_replicate]
    omega

theorem execs_app (env : Env) : ∀ (a b : List Stmt), execs (a ++ b) env = (do match ← execs a env with | .next => execs b env | f => pure f)
  | [], b => by
    show execs b env = _
    rw [execs_nil]; rfl
  | st :: a, b => by
    rw [List.cons_append, execs_cons, execs_cons, bind_assoc]
    congr 1
    funext f
    cases f with
    | next => exact execs_app env a b
    | brk => rfl
    | cont => rfl
    | ret v => rfl
theorem at_app {M : Model} {A : Around} {c : Code} {E : Value → Shared → Prop} {s : Shared} {env : Env} {a b : List Stmt} {Q : Flow → Shared → Prop}
    (h : wpAny M A (execs a env) (fun f s' => match f with | .next => PySem.wpAt M A c (execs b env) Q E s' | f => Q f s') E s) : PySem.wpAt M A c (execs (a ++ b) env) Q E s := by
  rw [execs_app]
  refine PySem.wpAt_bind (PySem.wpAt_of_wpAny (wpAny_mono h (fun f s' q => ?_) fun _ _ x => x))
  cases f with
  | next => exact q
  | brk => exact PySem.wpAt_of_wpAny (wpAny_pure q)
  | cont => exact PySem.wpAt_of_wpAny (wpAny_pure q)
  | ret v => exact PySem.wpAt_of_wpAny (wpAny_pure q)

theorem with_bound {M : Model} {A : Around} {E : Value → Shared → Prop} {s : Shared} {K : PySem.W.Frag} {env : Env} {pos : Pos} {q g : Addr} {self : Value} {e : Expr} {es : List Expr} {Q : Value → Shared → Prop} (hf : PySem.W.fnIn K g = true)
    (he : starEach (e :: es) env = (false, eval e env) :: starEach es env) (hp : (backTo pos (starEach es env)).any (·.1) = false)
    (h : wpAny M A (spliced (backTo pos (starEach (e :: es) env))) (fun vs s1 => PySem.W.MethP K q g self s1.heap ∧ wpAny M A (call (.ref q) ([] ++ vs)) Q E s1) E s) :
    wpAny M A (callWith pos (.ref q) [] (backTo pos (starEach (e :: es) env)) []) Q E s := by
  rw [he] at h ⊢
  refine PySem.W.callWith_of (P := PySem.W.MethP K q g self) ?_ (PySem.W.keeps_M hf) (Calls.evalArgs_plain h)
  show ((false || (backTo pos (starEach es env)).any (·.1)) || false) = false
  rw [hp]
  rfl

@[reducible] def dInit (N : List Str) (b : List Sl → W Out) (fa : List Sl → W (List D)) (m2 : Nat) (g2 : Addr → List (Str × D) → List D → W (List (Str × D))) : Addr → List (Str × D) → List D → W (List (Str × D)) := fun x gs ds => (b (startI N x ds)).bind fun o => match o with
  | .nx δ => W.need (δ[0]? = some (Sl.val (.adr x))) ((fa δ).bind fun es => W.need (es.length = m2) (g2 x gs es))
  | _ => W.stuck
section
variable {P : Program} {w : World} {K : PySem.W.Frag} {mg : Str → Option Value} {base : Heap} {nm qual : Str} {params : Arguments} {body : List Stmt} {scope : Scope} {DC f f2 : Addr} {fd fd2 : FuncData}
theorem fn_super {CX CX2 : CXT} {N ps ps2 : List Str} {k m m2 : Nat} {cl cl2 : List Str} {t : TS} {b : List Sl → W Out} {ta : TA} {fa : List Sl → W (List D)} {g2 : Addr → List (Str × D) → List D → W (List (Str × D))} {pre : List Stmt} {e : Expr} {es : List Expr} {p0 p1 apos pos pos2 : Pos} {slf : Str} {ar : Arg}
    (F : SupD P K nm qual params body scope DC f fd) (S : SupScope N ps scope) (hN : N[0]? = some slf) (hps : ps.length = m + 1) (har : (params.posonlyargs ++ params.args).head? = some ar) (hslf : ar.arg = slf) (hloc : scope.names.lookup slf = some .local)
    (hb : body = pre ++ [.Expr (.Call (.Attribute (.Call (.Name "super" p0) [] [] p1) "__init__" apos) (e :: es) [] pos) pos2])
    (hl : LS K t b) (hla : LA K ta fa)
    (hpre : ∀ (cd : Value) (cc : Addr) (A : Around) (outer : List Env) (s : Shared) (H : Hp) (E : XK), Room k (A.deeper (PySem.W.ksEnv qual scope s.heap.objs.size f cd cc)) → PSs (cxS CX P w K mg base N qual scope f cd cc A outer s H E).nox pre t)
    (harg : ∀ (cd : Value) (cc : Addr) (A : Around) (outer : List Env) (s : Shared) (H : Hp) (E : XK), Room k (A.deeper (PySem.W.ksEnv qual scope s.heap.objs.size f cd cc)) → PA (cxS CX P w K mg base N qual scope f cd cc A outer s H E).nox (e :: es) ta)
    (G : FnOk P w K mg base CX2 k f2 fd2 ps2 (PrI K m2 cl2 g2)) (b2 : Binds K fd2 ps2 []) (hx : ∀ (X : Cx), X.prog = P → X.w = w → Passes CX2 X E0) (hsub : ∀ c, c ∈ cl → c ∈ cl2 ∧ SupC K (He.ga K c) DC f2) (hboot : bootBuiltins "super" = some (.type "super"))
    (hst : ∀ env : Env, starEach (e :: es) env = (false, eval e env) :: starEach es env) (hpl : ∀ env : Env, (backTo pos (starEach es env)).any (·.1) = false)
    (hsw : ∀ env : Env, swapsWith (.Call (.Attribute (.Call (.Name "super" p0) [] [] p1) "__init__" apos) (e :: es) [] pos) none pos2.line env = pure false)
    (hev : ∀ env : Env, ∃ plS : Sem Bool, eval (.Call (.Attribute (.Call (.Name "super" p0) [] [] p1) "__init__" apos) (e :: es) [] pos) env = (do
      let ov ← attributeBase (.Call (.Name "super" p0) [] [] p1) "__init__" env (eval (.Call (.Name "super" p0) [] [] p1) env)
      standAt apos.atName
      let (f, first) ← holding [ov] (getMethod ov "__init__" plS)
      callWith pos f first (backTo pos (starEach (e :: es) env)) [])) :
    FnOk P w K mg base CX (k + 1) f fd ps (PrI K m cl (dInit N b fa m2 g2)) := by
  obtain ⟨oc, od, kV, doc, pm, an, cda, ct, osl, cc, rfl, lk, hcd, ⟨ccl, ccd, ccs, hcell⟩, ⟨kcl, kcd, kvs, kcs, file, tf, hcode, hvs, hfile⟩⟩ := F.ex
  refine ⟨fun vs H Q E h => by rw [PrI.len vs H Q E h, hps], fun A outer s H args us vs Q E hr e0 hbind r hsp => ?_⟩
  have hlen := PrI.len vs H Q E hsp
  have KB := e0.mod.kin
  have KX : K.In s.heap := e0.mod.kin.keeps fun b o e => (e0.bs b o e).1
  have lim : s.heap.NoLimit := e0.mod.nolimit.keeps fun b o e => (e0.bs b o e).1
  refine PySem.ks_codeAny_call_defAt (body := body) (binds := ps.zip us) hr.depth (KX _ _ lk) rfl lim (PySem.W.codeRec_of KX hcd) rfl hbind S.noc (fun y hy => S.par y.1 (List.of_mem_zip (a := y.1) (b := y.2) hy).1) (fun h1 hns hk => ?_) S.co S.gen S.kind
  let X : Cx := cxS CX P w K mg base N qual scope f (.ref cda) cc A outer s H E
  have I : Inv X [] (L2.start N vs) H { s with heap := h1, toks := s.toks + (ps.zip us).length } := inv_super S hr.hd e0 (by rw [hlen, hps]) r (KB _ _ hcell) rfl hns hk
  have hrd : Room k (A.deeper (PySem.W.ksEnv qual scope s.heap.objs.size f (.ref cda) cc)) := hr.deeper _
  obtain ⟨pn, F0, x, ws, ds, n, c, dx, fs, gs, rfl, ok, rl, dl, hc, se, q⟩ := hsp
  obtain ⟨hc2, sc⟩ := hsub c hc
  have slo : Slo K pn H F0 H (L2.start N (.ref x :: ws)) (startI N x ds) := Slo.start (.cons (.adr x) rl)
  rw [hb]
  refine at_app ?_
  -- the statements ahead
  let POST : Nat → List (Str × D) → Prop := fun k hs => ∀ F1 H1 es, GoX pn x F0 H F1 H1 → Ok K pn F1 H1 k → Se K pn c x dx F1 H1 es hs → Q .non H1
  have rd : t { nx := fun σ1 H1 => ∃ F1 n1 δ1, Go pn F0 H F1 H1 ∧ Ok K pn F1 H1 n1 ∧ Slo K pn H F1 H1 σ1 δ1 ∧ δ1[0]? = some (Sl.val (.adr x)) ∧ ((fa δ1).bind fun es => W.need (es.length = m2) (g2 x gs es)).wp n1 POST noX, rt := fun _ _ => False } (L2.start N (.ref x :: ws)) H := by
    refine hl pn F0 H F0 H n _ _ _ (Go.refl ..) ok slo ((b _).mono (fun k1 u p => ?_) (fun _ _ z => z) q)
    cases u with
    | nx δ => exact fun σ1 F1 H1 _ g1 o1 s1 => ⟨F1, k1, δ, g1, o1, s1, p.1, p.2⟩
    | rt d => exact p.elim
    | bk δ => exact p.elim
    | ct δ => exact p.elim
  have run1 := (hpre (.ref cda) cc A outer s H E hrd).nox.run [] _ _ H _ I rd
  refine wpAny_mono run1 (fun fl s1 hs => ?_) (fun e s' hs => hs)
  cases fl with
  | ret u => obtain ⟨_, _, _, _, _, z⟩ := hs; exact z.elim
  | brk => obtain ⟨_, _, _, z⟩ := hs; exact z.elim
  | cont => obtain ⟨_, _, _, z⟩ := hs; exact z.elim
  | next =>
    obtain ⟨σ1, H1, I1, F1, n1, δ1, g1, o1, s1', e1, q1⟩ := hs
    have hx1 : H1 x = some (.ins (He.ga K c) dx fs) := g1.keep x _ se.ne se.ob
    have fx1 : F1 x = none := g1.none se.fx se.ob
    obtain ⟨v0, hv0, r0⟩ := s1'.val 0 _ e1
    cases r0
    have KX1 : K.In s1.heap := I1.kIn
    obtain ⟨mA, OM, _⟩ := ins_get I1.hok hx1
    obtain ⟨odx, IA, _⟩ := OM.look
    -- the call
    obtain ⟨plS, hev1⟩ := hev (PySem.W.ksEnv qual scope s.heap.objs.size f (.ref cda) cc)
    refine PySem.ks_wpAt_execs_cons (PySem.ks_wpAt_Expr_any (PySem.ks_wpAt_MethodCall (pl := plS) ?_ hev1) I.quiet (hsw _))
    obtain ⟨hh, gg, dd, tt, oo⟩ := s1
    refine PySem.ks_wpAt_super_base S.sup S.cls (by decide) rfl (KX1 _ _ lk) rfl har rfl (KX1 _ _ hcode) rfl hvs hfile F.top ?_
    obtain ⟨mb, hb1, hb2⟩ := I1.mod.blt
    refine PySem.W.ks_loadName_global S.kind S.sup (Calls.loadGlobal_builtin (env := PySem.W.ksEnv qual scope s.heap.objs.size f (.ref cda) cc) (I1.mod.glob.keeps I1.bk) (PySem.W.mg_none_of KB e0.mod.glob F.sup) (hb1.keeps I1.bk) ((hb2 "super" (by decide)).trans hboot) ⟨rfl, ?_⟩)
    refine wpAny_loadName_free S.kind S.cls rfl ⟨_, KX1 _ _ hcell, rfl⟩ ?_
    obtain ⟨ml, hn1, hl1⟩ := I1.loc
    obtain ⟨u0, ru0, lk0⟩ := hl1 0 slf (.ref x) hN hv0 (.inl hloc)
    have hml : ml slf = some (.ref x) := by
      have e0 : u0 = Value.ref x := ru0
      rw [e0] at lk0
      rcases lk0 with ⟨_, z⟩ | ⟨z, _⟩
      · exact z
      · have z1 : scope.names.lookup slf = some .cell ∨ scope.names.lookup slf = some .free := z
        rw [hloc] at z1
        rcases z1 with z1 | z1 <;> cases z1
    rw [hslf]
    refine wpAny_loadName_local S.kind hloc hn1 hml ?_
    obtain ⟨cdD, hcD⟩ := F.cls
    obtain ⟨oD, hD1, hD2⟩ : ∃ oD, hh.get? DC = some oD ∧ oD.data = .cls cdD := by
      unfold PySem.W.clsIn at hcD
      split at hcD
      · rename_i ho
        cases hcD
        exact ⟨_, KX1 _ _ ho, rfl⟩
      · cases hcD
    refine PySem.ks_wpAny_isType_cls hD1 hD2 ⟨rfl, ?_⟩
    refine PySem.ks_wpAny_call_super hD1 hD2 IA.at_ IA.cls (fun cz ez => ?_) (PySem.W.looks_mroIn KX1 sc.mro) (fun h2 hso hk2 => ?_)
    · have := IA.no
      unfold PySem.W.notCls at this
      rw [ez] at this
      exact Bool.noConfusion this
    have I2 : Inv X [] σ1 H1 ⟨h2, gg, dd, tt, oo⟩ := I1.kept (t' := tt) hk2
    have KX2 : K.In h2 := I2.kIn
    obtain ⟨cdC, hcC⟩ : ∃ cd, PySem.W.clsIn K (He.ga K c) = some cd := by
      cases q2 : PySem.W.clsIn K (He.ga K c) with
      | none =>
        have z := sc.at_
        unfold PySem.W.ks_superIn at z
        rw [q2] at z; cases z
      | some cd => exact ⟨cd, rfl⟩
    have hal := sc.at_
    unfold PySem.W.ks_superIn at hal
    rw [hcC] at hal
    obtain ⟨of2, hof, hofc⟩ : ∃ of2, h2.get? f2 = some of2 ∧ of2.cls = .type "function" := by
      have z : (K.lookup f2).map (·.cls) = some (.type "function") := sc.ty
      cases q2 : K.lookup f2 with
      | none => rw [q2] at z; cases z
      | some of2 => rw [q2] at z; exact ⟨of2, KX2 _ _ q2, Option.some.inj z⟩
    refine PySem.ks_wpAny_getMethod_super hso (PySem.W.looks_opaque KX2 F.op) (l₀ := cdC.mro) ?_ rfl KX2 hal hof hofc (PySem.W.ks_ne KX1 IA hcC) (by decide) ?_
    · exact fun A Q E s k q => wpAny_bind ((PySem.W.looks_clsIn KX2 hcC) A _ E s k (wpAny_pure q))
    have I3 : Inv X [] σ1 H1 ⟨h2.push { cls := .type "method", data := .fields #[.ref f2, .ref x] }, gg, dd, tt + 1, oo⟩ := I2.kept (t' := tt + 1) (fun b o e => Heap.get?_push_of_some _ e)
    have hbm : (h2.push { cls := .type "method", data := .fields #[.ref f2, .ref x] }).get? h2.objs.size = some { cls := .type "method", data := .fields #[.ref f2, .ref x] } := Heap.get?_push_at rfl rfl
    have I4 := I3.pinned (fp := [h2.objs.size]) (fun b hb => by
      have eb : b = h2.objs.size := by simpa using hb
      subst eb
      exact I2.fpOk (Nat.le_refl _) (I2.hok.fresh (Nat.le_refl _))) (fun b hb => by
      have eb : b = h2.objs.size := by simpa using hb
      subst eb
      exact ⟨_, hbm, fun v z => by cases z⟩)
    show wpAny (model P w) X.A (callWith pos (.ref h2.objs.size) [] (backTo pos (starEach (e :: es) X.env)) []) _ _ _
    refine with_bound (g := f2) (self := .ref x) sc.fn (hst _) (hpl _) ?_
    have rdA : ta σ1 H1 fun vs5 H5 => ∃ F5 n5 ds5, Go pn F1 H1 F5 H5 ∧ Ok K pn F5 H5 n5 ∧ RepL K pn F5 vs5 ds5 ∧ ds5.length = m2 ∧ (g2 x gs ds5).wp n5 POST noX :=
      hla pn H F1 H1 n1 σ1 δ1 _ o1 s1' ((fa δ1).mono (fun k5 ds5 p5 => fun vs5 F5 H5 g5 o5 r5 => ⟨F5, k5, ds5, g5, o5, r5, p5.1, p5.2⟩) (fun _ _ z => z) q1)
    refine wpAny_mono ((harg (.ref cda) cc A outer s H E hrd).run pos _ _ σ1 H1 _ (I4.wish _) rdA) (fun us5 s5 q5 => ?_) (fun _ _ z => z.elim)
    obtain ⟨vs5, H5, I5, r5, F5, n5, ds5, g5, o5, rl5, dl5, q5⟩ := q5
    have I5 : Inv X _ σ1 H5 s5 := I5.unwish
    have hb5 : s5.heap.get? h2.objs.size = some { cls := .type "method", data := .fields #[.ref f2, .ref x] } := (I5.pin (h2.objs.size, _) (List.mem_append_right _ (List.mem_append_right _ (mem_pinsAt (List.mem_cons_self) hbm)))).1
    refine ⟨⟨hb5, I5.kIn⟩, ?_⟩
    show wpAny (model P w) X.A (call (.ref h2.objs.size) ([] ++ us5)) _ _ s5
    have hx5 : H5 x = some (.ins (He.ga K c) dx fs) := g5.keep x _ se.ne hx1
    have fx5 : F5 x = none := g5.none fx1 hx1
    have g05 := g1.trans g5 o5.fpn
    have sp2 : PrI K m2 cl2 g2 (.ref x :: vs5) H5 (fun _ H6 => Q .non H6) E0 := ⟨pn, F5, x, vs5, ds5, n5, c, dx, fs, gs, rfl, o5, rl5, dl5, hc2, ⟨hx5, fx5, se.ne, se.rep.up g05.sub, se.na, se.few⟩,
      (g2 x gs ds5).mono (fun k6 hs p6 => fun F6 H6 es6 g6 o6 se6 => p6 F6 H6 es6 ⟨fun a o na nx ha => g6.keep a o na nx (g05.keep a o na ha), g05.sub.trans g6.sub, fun a o ha hf => by
        cases z : F5 a with
        | some u => exact g05.new a u z hf
        | none =>
          have h6 := g6.new a o ha z
          have na : a ≠ pn := by rintro rfl; rw [o6.fpn] at ha; cases ha
          cases z2 : H a with
          | none => rfl
          | some u => rw [g05.keep a u na z2] at h6; cases h6⟩ o6 se6) (fun _ _ z => z) q5⟩
    have r25 : Vals (V.ref x :: vs5) (Value.ref x :: us5) := .cons rfl r5
    have hl2 : (Value.ref x :: us5).length = ps2.length := by rw [← r25.length]; exact G.len _ _ _ _ sp2
    refine wpAny_call (PySem.ks_codeAny_call_bound hb5 (codeAny_mono (G.run X.A X.stack s5 H5 ⟨.ref x :: us5, []⟩ (.ref x :: us5) (.ref x :: vs5) _ E0 hrd I5.env0 ?_ r25 sp2) fun r6 s6 h6 => ?_))
    · have z := b2 s5 (.ref x :: us5) I5.kIn (by rw [List.append_nil]; exact hl2)
      rw [List.append_nil] at z
      exact z
    · cases r6 with
      | error er => exact hx X rfl rfl _ _ _ _ er s6 I5 h6
      | ok fl =>
        cases fl with
        | ret u6 =>
          obtain ⟨v6, H6, I6, rv6, q6⟩ := I5.after h6
          exact PySem.wpAt_of_wpAny (wpAny_execs_nil ⟨.non, H6, I6.os, I6.bare, I6.base, I6.hok, rfl, q6⟩)
        | next => exact False.elim h6
        | brk => exact False.elim h6
        | cont => exact False.elim h6
end
end Lx
set_option Elab.async false
set_option linter.all false
set_option maxRecDepth 100000
set_option maxHeartbeats 2000000
/-! Lx6: objects: fields stored by an init, objects made, fields, properties and methods read. -/
namespace Lx
open PySem L2 PyProof.Rows

def putG (f : Str) (v : D) : List (Str × D) → List (Str × D)
  | [] => [(f, v)]
  | (g, x) :: r => if g = f then (g, v) :: r else (g, x) :: putG f v r
theorem putG_len (f : Str) (v : D) : ∀ gs, (putG f v gs).length ≤ gs.length + 1
  | [] => Nat.le_refl _
  | (g, x) :: r => by
    unfold putG
    split
    · exact Nat.le_succ _
    · exact Nat.succ_le_succ (putG_len f v r)
theorem putG_names (f : Str) (v : D) : ∀ {gs : List (Str × D)} {y : Str}, y ∈ (putG f v gs).map (·.1) → y = f ∨ y ∈ gs.map (·.1)
  | [], y, h => by simp [putG] at h; exact .inl h
  | (g, x) :: r, y, h => by
    unfold putG at h
    split at h
    · exact .inr h
    · rw [List.map_cons, List.mem_cons] at h
      rcases h with h | h
      · exact .inr (by rw [h]; exact List.mem_cons_self)
      · rcases putG_names f v h with h | h
        · exact .inl h
        · exact .inr (List.mem_cons_of_mem _ h)
section
variable {K : PySem.W.Frag}
theorem RepF.put {pn : Addr} {F : Hp} {f : Str} {v : V} {d : D} (r : Rep K pn F v d) : ∀ {fs : List (Str × V)} {gs : List (Str × D)}, RepF K pn F fs gs → RepF K pn F (putF f v fs) (putG f d gs)
  | _, _, .nil => .cons r .nil
  | _, _, .cons (x := x) a q => by
    unfold putF putG
    split
    · exact .cons r q
    · exact .cons a (RepF.put r q)
theorem RepF.len {pn : Addr} {F : Hp} : ∀ {fs : List (Str × V)} {gs : List (Str × D)}, RepF K pn F fs gs → fs.length = gs.length
  | _, _, .nil => rfl
  | _, _, .cons _ q => congrArg (· + 1) q.len

/-! ### an init's body -/
abbrev FS := List Sl × List (Str × D)
def LSF (K : PySem.W.Frag) (cl : List Str) (ts : TS) (g : Addr → FS → W FS) : Prop := ∀ (pn : Addr) (c : Str) (x dx : Addr) (F0 H0 F H : Hp) (n : Nat) (σ : L2.St) (δ : List Sl) (fs : List (Str × V)) (gs : List (Str × D)) (E : Ends), c ∈ cl → GoX pn x F0 H0 F H → Ok K pn F H n → Slo K pn H0 F H σ δ → Se K pn c x dx F H fs gs → F0 x = none →
  (g x (δ, gs)).wp n (fun k p => ∀ σ1 F1 H1 es, Le F F1 → GoX pn x F0 H0 F1 H1 → Ok K pn F1 H1 k → Slo K pn H0 F1 H1 σ1 p.1 → Se K pn c x dx F1 H1 es p.2 → E.nx σ1 H1) noX → ts E σ H
@[reducible] def fSeq (g h : Addr → FS → W FS) : Addr → FS → W FS := fun x p => (g x p).bind fun q => h x q
@[reducible] def fOf (b : List Sl → W Out) : Addr → FS → W FS := fun _ p => (b p.1).bind fun o => match o with | .nx δ => W.ret (δ, p.2) | _ => W.stuck
@[reducible] def fSet (f : Str) (fe : List Sl → W D) : Addr → FS → W FS := fun x p => (fe p.1).bind fun d => W.need (p.1[0]? = some (Sl.val (.adr x)) ∧ p.2.length < 900) (W.ret (p.1, putG f d p.2))
theorem lsf_seq {cl : List Str} {ts tu : TS} {g h : Addr → FS → W FS} (a : LSF K cl ts g) (b : LSF K cl tu h) : LSF K cl (tSeq ts tu) (fSeq g h) := fun pn c x dx F0 H0 F H n σ δ fs gs E hc k o s se f0 q => by
  refine a pn c x dx F0 H0 F H n σ δ fs gs _ hc k o s se f0 ((g x (δ, gs)).mono (fun m p z => ?_) (fun _ _ z => z) q)
  intro σ1 F1 H1 es l1 k1 o1 s1 se1
  refine b pn c x dx F0 H0 F1 H1 m σ1 p.1 es p.2 E hc k1 o1 s1 se1 f0 ((h x p).mono (fun m2 p2 z2 => ?_) (fun _ _ z => z) z)
  intro σ2 F2 H2 es2 l2
  exact z2 σ2 F2 H2 es2 (l1.trans l2)
theorem lsf_of {cl : List Str} {ts : TS} {b : List Sl → W Out} (a : LS K ts b) : LSF K cl ts (fOf b) := fun pn c x dx F0 H0 F H n σ δ fs gs E hc k o s se f0 q => by
  have k' : Go pn F0 (upd H0 x (.ins (He.ga K c) dx fs)) F H := by
    refine ⟨fun a u na e => ?_, k.sub, fun a u e z => ?_⟩
    · by_cases ha : a = x
      · subst ha; rw [upd_same] at e; cases e; exact se.ob
      · rw [upd_ne ha] at e; exact k.keep a u na ha e
    · have ha : a ≠ x := by rintro rfl; rw [se.fx] at e; cases e
      rw [upd_ne ha]; exact k.new a u e z
  have s' : Slo K pn (upd H0 x (.ins (He.ga K c) dx fs)) F H σ δ := by
    obtain ⟨ow, h1, h2⟩ := s.own
    refine ⟨s.len, s.val, ow, fun i xs e => ?_, h2⟩
    obtain ⟨vs, a1, a2, a3, a4, a5, a6⟩ := h1 i xs e
    have ne : ow i ≠ x := ne_of a2 se.ob (by intro z; cases z)
    exact ⟨vs, a1, a2, a3, a4, a5, by rw [upd_ne ne]; exact a6⟩
  refine a pn F0 _ F H n σ δ E k' o s' ((b δ).mono (fun m u z => ?_) (fun _ _ z => z) q)
  cases u with
  | rt d => exact z.elim
  | bk d => exact z.elim
  | ct d => exact z.elim
  | nx ε =>
    intro σ1 F1 H1 l1 k1 o1 s1
    have hx1 : H1 x = some (.ins (He.ga K c) dx fs) := k1.keep x _ se.ne upd_same
    have fx1 : F1 x = none := by
      cases z1 : F1 x with
      | none => rfl
      | some u => have := k1.new x u z1 f0; rw [upd_same] at this; cases this
    refine z σ1 F1 H1 fs l1 ⟨fun a u na nx e => k1.keep a u na (by rw [upd_ne nx]; exact e), k1.sub, fun a u e z => ?_⟩ o1 ?_ ⟨hx1, fx1, se.ne, se.rep.up l1, se.na, se.few⟩
    · have ha : a ≠ x := by rintro rfl; rw [fx1] at e; cases e
      have := k1.new a u e z
      rw [upd_ne ha] at this; exact this
    · obtain ⟨ow, h1, h2⟩ := s1.own
      refine ⟨s1.len, s1.val, ow, fun i xs e => ?_, h2⟩
      obtain ⟨vs, a1, a2, a3, a4, a5, a6⟩ := h1 i xs e
      have ne : ow i ≠ x := ne_of a2 hx1 (by intro z; cases z)
      rw [upd_ne ne] at a6
      exact ⟨vs, a1, a2, a3, a4, a5, a6⟩
theorem lsf_set {cl : List Str} {te : TE} {fe : List Sl → W D} {f : Str} (hc : ∀ c ∈ cl, Cls K (He.ga K c) ∧ NoAttr K (He.ga K c) f) (he : LE K te fe) : LSF K cl (sFld K (tVar 0) te f) (fSet f fe) := fun pn c x dx F0 H0 F H n σ δ fs gs E hcl k o s se f0 q => by
  refine he pn H0 F H n σ δ _ o s ((fe δ).mono (fun m d z => ?_) (fun _ _ z => z) q)
  intro v F1 H1 k1 o1 r1
  obtain ⟨⟨z1, z2⟩, z3⟩ := z
  obtain ⟨v0, hv0, r0⟩ := s.val 0 _ z1
  cases r0
  have hx1 := k1.keep x _ se.ne se.ob
  have fx1 := k1.none se.fx se.ob
  have rl := (se.rep.up k1.sub)
  refine ⟨.ref x, hv0, x, He.ga K c, dx, fs, rfl, hx1, (hc c hcl).1, (hc c hcl).2, by rw [rl.len]; have : gs.length < 900 := z2; omega, ?_⟩
  have s1 := s.go k1
  have ne : ∀ {a : Addr} {vs : List V}, H1 a = some (.lst vs) → a ≠ x := fun h => ne_of h hx1 (by intro z; cases z)
  refine z3 σ F1 _ _ k1.sub ⟨fun a u na nx e => by rw [upd_ne nx]; exact k1.keep a u na (k.keep a u na nx e), k.sub.trans k1.sub, fun a u e z => ?_⟩ (o1.put fx1 se.ne) ?_ ⟨upd_same, fx1, se.ne, rl.put r1, fun y hy => ?_, ?_⟩
  · cases q2 : F a with
    | some u2 => exact k.new a u2 q2 z
    | none =>
      have h1 := k1.new a u e q2
      have na : a ≠ pn := by rintro rfl; rw [o1.fpn] at e; cases e
      have nx : a ≠ x := by rintro rfl; rw [fx1] at e; cases e
      cases q3 : H0 a with
      | none => rfl
      | some u3 => rw [k.keep a u3 na nx q3] at h1; cases h1
  · obtain ⟨ow, h1, h2⟩ := s1.own
    refine ⟨s1.len, s1.val, ow, fun i xs e => ?_, h2⟩
    obtain ⟨vs, a1, a2, a3⟩ := h1 i xs e
    exact ⟨vs, a1, by rw [upd_ne (ne a2)]; exact a2, a3⟩
  · rcases putG_names f d hy with e | e
    · rw [e]; exact (hc c hcl).2
    · exact se.na y e
  · have h1 := putG_len f d gs
    have h2 : gs.length < 900 := z2
    show (putG f d gs).length ≤ 900
    omega
@[reducible] def dInitF (N : List Str) (g : Addr → FS → W FS) : Addr → List (Str × D) → List D → W (List (Str × D)) := fun x gs ds => (g x (startI N x ds, gs)).bind fun p => W.ret p.2
end
section
variable {P : Program} {w : World} {K : PySem.W.Frag} {mg : Str → Option Value} {base : Heap} {x qual : Str} {params : Arguments} {body : List Stmt} {scope : Scope} {dvs : List V} {kws : List (Str × V)} {f : Addr} {fd : FuncData}
theorem fn_init {CX : CXT} {N ps : List Str} {k m : Nat} {cl : List Str} {t : TS} {g : Addr → FS → W FS} (F : FunD K x qual params body scope dvs kws f fd) (S : FnScope N ps scope) (hps : ps.length = m + 1) (hl : LSF K cl t g)
    (hb : ∀ (cdv : Value) (A : Around) (outer : List Env) (s : Shared) (H : Hp) (E : XK), Room k (A.deeper (envOfC qual scope s.heap.objs.size f cdv)) → PSs (cxOf CX P w K mg base N qual scope f cdv A outer s H E).nox body t) :
    FnOk P w K mg base CX (k + 1) f fd ps (PrI K m cl (dInitF N g)) := by
  refine F.ok S (fun vs H Q E h => by rw [PrI.len vs H Q E h, hps]) fun cdv A outer s H vs Q E hr h => ⟨t, (hb cdv A outer s H E hr).nox, ?_⟩
  obtain ⟨pn, F0, y, ws, ds, n, c, dx, fs, gs, rfl, ok, rl, dl, hc, se, q⟩ := h
  refine hl pn c y dx F0 H F0 H n _ (startI N y ds) fs gs _ hc (GoX.of (Go.refl ..)) ok (Slo.start (.cons (.adr y) rl)) se se.fx ((g y _).mono (fun k1 p z => ?_) (fun _ _ z => z) q)
  intro σ1 F1 H1 es _ k1 o1 _ se1
  exact z F1 H1 es k1 o1 se1
end

/-! ### objects made -/
section
variable {K : PySem.W.Frag}
@[reducible] def dMake (c : Str) (m : Nat) (g : Addr → List (Str × D) → List D → W (List (Str × D))) (f : List Sl → W (List D)) : List Sl → W D := fun δ => (f δ).bind fun ds => W.need (ds.length = m) ⟨fun n Q E => ∀ x, (g x [] ds).wp n (fun k gs => Q k (.obj c gs)) E, fun h j p x => (g x [] ds).mono (fun _ _ z => h _ _ z) j (p x)⟩
theorem le_make {c : Str} {m : Nat} {cl : List Str} {g : Addr → List (Str × D) → List D → W (List (Str × D))} {t : TA} {f : List Sl → W (List D)} (hc : c ∈ cl) (hC : Cls K (He.ga K c)) (ha : LA K t f) : LE K (tMake (He.ga K c) (PrI K m cl g) [] E0 t) (dMake c m g f) := fun pn H0 F H n σ δ Q o s h => by
  refine ha pn H0 F H n σ δ _ o s ((f δ).mono (fun k ds p => ?_) (fun _ _ z => z) h)
  intro vs F1 H1 k1 o1 r1 x dx hx hdx hne
  obtain ⟨p1, p2⟩ := p
  obtain ⟨o2, k2⟩ := o1.layO (o := .own x) hdx
  have hx2 : upd H1 dx (.own x) x = none := by rw [upd_ne hne.symm]; exact hx
  obtain ⟨o3, k3⟩ := o2.layO (o := .ins (He.ga K c) dx []) hx2
  have fx := o1.free hx
  refine ⟨pn, F1, x, vs, ds, k, c, dx, [], [], by rw [List.append_nil], o3, r1, p1, hc, ⟨upd_same, fx, o1.ne hx, .nil, fun y hy => by simp at hy, by decide⟩, (g x [] ds).mono (fun m2 gs z => ?_) (fun _ _ z => z) (p2 x)⟩
  intro F4 H4 es g4 o4 se4
  refine ⟨rfl, z (.ref x) (upd F4 x (.ins (He.ga K c) dx es)) H4 ⟨fun a u na e => ?_, k1.sub.trans (g4.sub.trans (Le.up se4.fx)), fun a u e zf => ?_⟩ (o4.frz se4.ob se4.fx se4.ne) (.obj upd_same hC se4.na (se4.rep.up (Le.up se4.fx)))⟩
  · have e1 := k1.keep a u na e
    have nx : a ≠ x := ne_of_none e1 hx
    have nd : a ≠ dx := ne_of_none e1 hdx
    exact g4.keep a u na nx (by rw [upd_ne nx, upd_ne nd]; exact e1)
  · by_cases hax : a = x
    · subst hax
      cases q3 : H a with
      | none => rfl
      | some u3 => rw [k1.keep a u3 se4.ne q3] at hx; cases hx
    · rw [upd_ne hax] at e
      cases q2 : F1 a with
      | some u2 => exact k1.new a u2 q2 zf
      | none =>
        have h4 := g4.new a u e q2
        have na : a ≠ pn := by rintro rfl; rw [o4.fpn] at e; cases e
        cases q3 : H a with
        | none => rfl
        | some u3 =>
          have e1 := k1.keep a u3 na q3
          rw [upd_ne hax, upd_ne (ne_of_none e1 hdx), e1] at h4; cases h4

/-! ### fields, properties, methods -/
@[reducible] def dFld (f : Str) (fa : List Sl → W D) : List Sl → W D := fun δ => (fa δ).bind fun x => match x with
  | .obj _ gs => (match gs.lookup f with | some d => W.ret d | none => W.stuck)
  | _ => W.stuck
theorem mem_lookup {f : Str} {d : D} : ∀ {gs : List (Str × D)}, gs.lookup f = some d → f ∈ gs.map (·.1)
  | [], h => by cases h
  | (g, y) :: r, h => by
    rw [List.lookup_cons] at h
    cases q : (f == g) with
    | true => rw [eq_of_beq q]; exact List.mem_cons_self
    | false => rw [q] at h; exact List.mem_cons_of_mem _ (mem_lookup h)
theorem le_fld {ta : TE} {fa : List Sl → W D} {f : Str} (ha : LE K ta fa) : LE K (tFld K ta f) (dFld f fa) := fun pn H0 F H n σ δ Q o s h => by
  refine ha pn H0 F H n σ δ _ o s ((fa δ).mono (fun k x p => ?_) (fun _ _ z => z) h)
  intro v F1 H1 k1 o1 r1
  cases r1 with
  | @obj a dx c fs gs hf hC hn rf =>
    dsimp only at p
    cases e : gs.lookup f with
    | none => rw [e] at p; exact p.elim
    | some d =>
      rw [e] at p
      obtain ⟨u, hu, ru⟩ := rf.look e
      exact ⟨a, _, dx, fs, u, rfl, o1.fro _ _ hf, hC, hn f (mem_lookup e), hu, p u F1 H1 k1 o1 ru⟩
  | _ => exact p.elim
abbrev Tb := List (Str × (List D → W D))
def tPropU (K : PySem.W.Frag) (tb : Tb) (ta : TE) : TE := fun σ H Q => ta σ H fun x H1 => ∃ a c dx fs g, x = .ref a ∧ H1 a = some (.ins (He.ga K c) dx fs) ∧ tb.lookup c = some g ∧ Pr K 1 g [.ref a] H1 Q E0
@[reducible] def dProp (tb : Tb) (fa : List Sl → W D) : List Sl → W D := fun δ => (fa δ).bind fun x => match x with
  | .obj c gs => (match tb.lookup c with | some g => g [.obj c gs] | none => W.stuck)
  | _ => W.stuck
theorem le_prop {ta : TE} {fa : List Sl → W D} {tb : Tb} (ha : LE K ta fa) : LE K (tPropU K tb ta) (dProp tb fa) := fun pn H0 F H n σ δ Q o s h => by
  refine ha pn H0 F H n σ δ _ o s ((fa δ).mono (fun k x p => ?_) (fun _ _ z => z) h)
  intro v F1 H1 k1 o1 r1
  cases r1 with
  | @obj a dx c fs gs hf hC hn rf =>
    dsimp only at p
    cases e : tb.lookup c with
    | none => rw [e] at p; exact p.elim
    | some g =>
      rw [e] at p
      exact ⟨a, c, dx, fs, g, rfl, o1.fro _ _ hf, e, pn, F1, _, k, o1, .cons (.obj hf hC hn rf) .nil, rfl, (g _).mono (fun _ _ z => Post.of k1 z) (fun _ _ z => z) p⟩
  | _ => exact p.elim
def tMethU (K : PySem.W.Frag) (m : Str) (n : Nat) (tb : Tb) (ta : TE) (t : TA) : TE := fun σ H Q => ta σ H fun x H1 => ∃ a c dx fs g, x = .ref a ∧ H1 a = some (.ins (He.ga K c) dx fs) ∧ fs.lookup m = none ∧ tb.lookup c = some g ∧
  t σ H1 fun vs H2 => Pr K (n + 1) g (.ref a :: vs) H2 Q E0
@[reducible] def dMeth (m : Str) (n : Nat) (tb : Tb) (fa : List Sl → W D) (f : List Sl → W (List D)) : List Sl → W D := fun δ => (fa δ).bind fun x => match x with
  | .obj c gs => W.need (gs.lookup m = none) (match tb.lookup c with | some g => (f δ).bind fun ds => W.need (ds.length = n) (g (.obj c gs :: ds)) | none => W.stuck)
  | _ => W.stuck
theorem le_meth {ta : TE} {fa : List Sl → W D} {t : TA} {f : List Sl → W (List D)} {m : Str} {j : Nat} {tb : Tb} (ha : LE K ta fa) (hb : LA K t f) : LE K (tMethU K m j tb ta t) (dMeth m j tb fa f) := fun pn H0 F H n σ δ Q o s h => by
  refine ha pn H0 F H n σ δ _ o s ((fa δ).mono (fun k x p => ?_) (fun _ _ z => z) h)
  intro v F1 H1 k1 o1 r1
  cases r1 with
  | @obj a dx c fs gs hf hC hn rf =>
    obtain ⟨p1, p⟩ := p
    cases e : tb.lookup c with
    | none => rw [e] at p; exact p.elim
    | some g =>
      rw [e] at p
      refine ⟨a, c, dx, fs, g, rfl, o1.fro _ _ hf, rf.noLook p1, e, ?_⟩
      refine hb pn H0 F1 H1 k σ δ _ o1 (s.go k1) ((f δ).mono (fun k2 ds p2 => ?_) (fun _ _ z => z) p)
      intro vs F2 H2 g2 o2 r2
      exact ⟨pn, F2, _, k2, o2, .cons (.up g2.sub (.obj hf hC hn rf)) r2, by rw [List.length_cons, p2.1], (g _).mono (fun _ _ z => (Post.of k1 z).of g2) (fun _ _ z => z) p2.2⟩
  | _ => exact p.elim
end
section
variable {X : Cx}
/-- an entry of a table of methods -/
structure MEnt (X : Cx) (m : Str) (n : Nat) (c : Str) (g : List D → W D) : Prop where
  ex : ∃ (CX : CXT) (k : Nat) (f : Addr) (fd : FuncData) (ps : List Str), Cls X.K (He.ga X.K c) ∧ Meth X.K (He.ga X.K c) m f ∧ FnOk X.prog X.w X.K X.mg X.base CX k f fd ps (Pr X.K (n + 1) g) ∧ Room k X.A ∧ Binds X.K fd ps [] ∧ Passes CX X E0
inductive MTab (X : Cx) (m : Str) (n : Nat) : Tb → Prop
  | nil : MTab X m n []
  | cons {c : Str} {g : List D → W D} {tb : Tb} : MEnt X m n c g → MTab X m n tb → MTab X m n ((c, g) :: tb)
theorem MTab.get {m : Str} {n : Nat} {c : Str} {g : List D → W D} : ∀ {tb : Tb}, MTab X m n tb → tb.lookup c = some g → MEnt X m n c g
  | _, .nil, h => by cases h
  | _, .cons (c := d) a r, h => by
    rw [List.lookup_cons] at h
    cases q : (c == d) with
    | true => rw [q] at h; cases h; rw [eq_of_beq q]; exact a
    | false => rw [q] at h; exact r.get h
theorem pe_methU {m : Str} {n : Nat} {tb : Tb} {o e : Expr} {es : List Expr} {ta : TE} {t : TA} {apos pos : Pos} {pl : Sem Bool} (T : MTab X m n tb) (he : PE X o ta) (ha : PA X (e :: es) t)
    (hst : starEach (e :: es) X.env = (false, eval e X.env) :: starEach es X.env := by rfl) (hpl : (backTo pos (starEach es X.env)).any (·.1) = false := by rfl)
    (ht : eval (.Call (.Attribute o m apos) (e :: es) [] pos) X.env = (do
      let ov ← eval o X.env
      standAt apos.atName
      let (f, first) ← holding [ov] (getMethod ov m pl)
      callWith pos f first (backTo pos (starEach (e :: es) X.env)) (backToKw pos (keywordEach [] X.env))) := by rfl) : PE X (.Call (.Attribute o m apos) (e :: es) [] pos) (tMethU X.K m n tb ta t) := by
  refine ⟨fun pins s σ H Q I h => ?_⟩
  refine PySem.W.methodCall_KW (pl := pl) (thn (he.run pins s σ H _ I h) fun u s1 ⟨x, H1, I1, rx, a, c, dx, fs, g, ex, ea, l, eg, q⟩ => ?_) ht
  subst ex
  obtain rfl : u = Value.ref a := rx
  obtain ⟨CX, k, f, fd, ps, hC, hm, F, hr, hb, hx⟩ := (T.get eg).ex
  refine getmeth_ok I1 ea hC hm l ?_
  refine PySem.W.callWith_K (first := [.ref a]) (h₀ := X.base) I.ok.mod.kin hm.kp (thn (ha.run pos pins s1 σ H1 _ I1 q) fun us s2 ⟨vs, H2, I2, r, q2⟩ => ⟨I2.kIn, ?_⟩) hst hpl
  exact run_fn (us := .ref a :: us) (vs := .ref a :: vs) (dvs := []) F hr hb .nil hx I2 (.cons rfl r) (by rw [List.append_nil]; exact q2)
theorem pe_methU0 {m : Str} {tb : Tb} {o : Expr} {ta : TE} {apos pos : Pos} {pl : Sem Bool} (T : MTab X m 0 tb) (he : PE X o ta)
    (ht : eval (.Call (.Attribute o m apos) [] [] pos) X.env = (do
      let ov ← eval o X.env
      standAt apos.atName
      let (f, first) ← holding [ov] (getMethod ov m pl)
      callWith pos f first (backTo pos (starEach [] X.env)) (backToKw pos (keywordEach [] X.env))) := by rfl) : PE X (.Call (.Attribute o m apos) [] [] pos) (tMethU X.K m 0 tb ta tNil) := by
  refine ⟨fun pins s σ H Q I h => ?_⟩
  refine PySem.W.methodCall_KW (pl := pl) (thn (he.run pins s σ H _ I h) fun u s1 ⟨x, H1, I1, rx, a, c, dx, fs, g, ex, ea, l, eg, q⟩ => ?_) ht
  subst ex
  obtain rfl : u = Value.ref a := rx
  obtain ⟨CX, k, f, fd, ps, hC, hm, F, hr, hb, hx⟩ := (T.get eg).ex
  refine getmeth_ok I1 ea hC hm l ?_
  refine PySem.W.callWith_K0 (first := [.ref a]) I1.kIn hm.kp ?_
  exact run_fn (us := [.ref a]) (vs := [.ref a]) (dvs := []) F hr hb .nil hx I1 (.cons rfl .nil) q
structure PEnt (X : Cx) (f : Str) (c : Str) (g : List D → W D) : Prop where
  ex : ∃ (CX : CXT) (k : Nat) (p fa : Addr) (fd : FuncData) (ps : List Str), Cls X.K (He.ga X.K c) ∧ PropOf X.K (He.ga X.K c) f p fa ∧ FnOk X.prog X.w X.K X.mg X.base CX k fa fd ps (Pr X.K 1 g) ∧ Room (k + 1) X.A ∧ Binds X.K fd ps [] ∧ Passes CX X.nox E0
inductive PTab (X : Cx) (f : Str) : Tb → Prop
  | nil : PTab X f []
  | cons {c : Str} {g : List D → W D} {tb : Tb} : PEnt X f c g → PTab X f tb → PTab X f ((c, g) :: tb)
theorem PTab.get {f : Str} {c : Str} {g : List D → W D} : ∀ {tb : Tb}, PTab X f tb → tb.lookup c = some g → PEnt X f c g
  | _, .nil, h => by cases h
  | _, .cons (c := d) a r, h => by
    rw [List.lookup_cons] at h
    cases q : (c == d) with
    | true => rw [q] at h; cases h; rw [eq_of_beq q]; exact a
    | false => rw [q] at h; exact r.get h
theorem pe_propU {f : Str} {tb : Tb} {e : Expr} {ta : TE} {pos : Pos} (T : PTab X f tb) (he : PE X e ta) (hab : attributeBase e f X.env (eval e X.env) = eval e X.env := by rfl) : PE X (.Attribute e f pos) (tPropU X.K tb ta) := by
  refine ⟨fun pins s σ H Q I h => ?_⟩
  refine attr_of hab (thn (he.run pins s σ H _ I h) fun u s1 ⟨x, H1, I1, rx, a, c, dx, fs, g, ex, ea, eg, q⟩ => ?_)
  subst ex
  obtain rfl : u = Value.ref a := rx
  obtain ⟨CX, k, p, fa, fd, ps, hC, hp, F, hr, hb, hx⟩ := (T.get eg).ex
  exact getprop_ok (dvs := []) (ds := []) I1 ea hC hp F hr hb .nil hx q
end
end Lx
set_option Elab.async false
set_option linter.all false
set_option maxRecDepth 100000
set_option maxHeartbeats 2000000
/-! Lx7: repr (no repr runs around), defs that use it, the law's end. -/
namespace Lx
open PySem L2 PyProof.Rows

/-! ### repr -/
def rRepr (K : PySem.W.Frag) : List V → Hp → VK → Prop := fun xs H Q => ∃ x d, xs = [x] ∧ Dp K H x d ∧ d.showable = true ∧ d.depth ≤ 60 ∧ d.hasDict = false ∧ d.shown.length ≤ sizeLine ∧ Q (.str d.shown) H
section
variable {X : Cx} {K : PySem.W.Frag}
theorem call_repr (hg : X.A.guards = some []) (hu : X.A.units + 64 < cLine) : CallR X (.builtin "repr") (rRepr X.K) := by
  intro pins s σ H xs us Q I r h
  obtain ⟨x, d, rfl, hd, h1, h2, h3, h4, q⟩ := h
  obtain ⟨u, rfl, rx⟩ := vals1 r
  obtain ⟨as, rd⟩ := Dp.reads I d x u hd rx
  have fin : ∀ {t : Tok} {k : Nat} {h' : Heap}, (∀ b o, s.heap.get? b = some o → h'.get? b = some o) → EP X pins σ Q (.str d.shown t) { s with heap := h', toks := k } := fun {t k h'} hk => ⟨.str d.shown, H, I.kept hk, ⟨t, rfl⟩, q⟩
  have fin0 : ∀ {t : Tok} {k : Nat}, EP X pins σ Q (.str d.shown t) { s with toks := k } := fun {t k} => ⟨.str d.shown, H, I.tok _, ⟨t, rfl⟩, q⟩
  cases hd with
  | non => cases rx; exact P.repr_of_none fin0
  | bl b => cases rx; exact P.repr_of_bool fin0
  | int i => obtain ⟨t, rfl⟩ := rx; exact P.repr_of_int (by simpa [PyData.showable] using h1) fin0
  | str y => obtain ⟨t, rfl⟩ := rx; exact P.repr_of_str fin0 h4
  | lst a b =>
    cases rx
    exact repr_of_reads' rd h1 (fun z => by rw [h3] at z; cases z) hg (by omega) (fun _ _ z => z) (fun h' t k hk => fin hk) h4
  | tup a b =>
    cases rx
    exact repr_of_reads' rd h1 (fun z => by rw [h3] at z; cases z) hg (by omega) (fun _ _ z => z) (fun h' t k hk => fin hk) h4
@[reducible] def reprD : List D → W D
  | [x] => match toP x with
    | some d => W.need (d.showable = true ∧ d.depth ≤ 60 ∧ d.hasDict = false ∧ d.shown.length ≤ sizeLine) (W.ret (.str d.shown))
    | none => W.stuck
  | _ => W.stuck
theorem lo_repr : LOn K (rRepr K) reprD := fun pn F H n vs xs Q o r h => by
  unfold reprD at h
  split at h
  · obtain ⟨v, rfl, rv⟩ := r.one
    split at h
    · rename_i d e
      exact ⟨v, d, rfl, rv.dp o.fro e, h.1.1, h.1.2.1, h.1.2.2.1, h.1.2.2.2, h.2 _ F H (Go.refl ..) o (.str _)⟩
    · exact h.elim
  · exact h.elim
end

/-! ### a def that is called where no repr runs -/
structure FnG (P : Program) (w : World) (K : PySem.W.Frag) (mg : Str → Option Value) (base : Heap) (CX : CXT) (k : Nat) (f : Addr) (fd : FuncData) (ps : List Str) (sp : Sp) : Prop where
  len : ∀ vs H Q E, sp vs H Q E → vs.length = ps.length
  run : ∀ (A : Around) (outer : List Env) (s : Shared) (H : Hp) (args : Args) (us : List Value) (vs : List V) (Q : VK) (E : XK), A.guards = some [] → Room k A → Env0 P w K mg base A outer s H → BindsTo s fd args (ps.zip us) → Vals vs us → sp vs H Q E →
    codeAny (model P w) A (.call (.ref f) args) (CR CX outer P w H s Q E) s
section
variable {P : Program} {w : World} {K : PySem.W.Frag} {mg : Str → Option Value} {base : Heap} {x qual : Str} {params : Arguments} {body : List Stmt} {scope : Scope} {dvs : List V} {kws : List (Str × V)} {f : Addr} {fd : FuncData}
theorem FnG.imp {CX : CXT} {k : Nat} {ps : List Str} {sp sq : Sp} (F : FnG P w K mg base CX k f fd ps sp) (h : ∀ vs H Q E, sq vs H Q E → sp vs H Q E) : FnG P w K mg base CX k f fd ps sq :=
  ⟨fun vs H Q E q => F.len vs H Q E (h _ _ _ _ q), fun A outer s H args us vs Q E hg hr he hb hv hs => F.run A outer s H args us vs Q E hg hr he hb hv (h _ _ _ _ hs)⟩
theorem fnG_of {CX : CXT} {N ps : List Str} {k : Nat} {sp : Sp} (F : FunD K x qual params body scope dvs kws f fd) (S : FnScope N ps scope) (len : ∀ vs H Q E, sp vs H Q E → vs.length = ps.length)
    (hb : ∀ (cdv : Value) (A : Around) (outer : List Env) (s : Shared) (H : Hp) (vs : List V) (Q : VK) (E : XK), (A.deeper (envOfC qual scope s.heap.objs.size f cdv)).guards = some [] → Room k (A.deeper (envOfC qual scope s.heap.objs.size f cdv)) → sp vs H Q E →
      ∃ t, PSs (cxOf CX P w K mg base N qual scope f cdv A outer s H E) body t ∧ t { nx := fun _ H' => Q .non H', rt := Q } (L2.start N vs) H) : FnG P w K mg base CX (k + 1) f fd ps sp := by
  refine ⟨len, fun A outer s H args us vs Q E hg hr he hbd hv hs => ?_⟩
  obtain ⟨oc, od, dV, kV, doc, pm, an, cdv, ct, osl, rfl, lk, hcd, _, _⟩ := F.ex
  have hl := len _ _ _ _ hs
  have st : ∀ b o, base.get? b = some o → s.heap.get? b = some o := fun b o e => (he.bs b o e).1
  have KX : K.In s.heap := he.mod.kin.keeps st
  have kinds : ∀ y ∈ ps.zip us, scope.names.lookup y.1 = some .local ∨ (scope.names.lookup y.1 = some .cell ∧ ((cellsFrom (s.heap.objs.size + 1) scope.names []).lookup y.1).isSome = true) := fun y hy => by
    have hm := (List.of_mem_zip (a := y.1) (b := y.2) hy).1
    exact (S.par y.1 hm).imp id fun q => ⟨q, PySem.W.cellsFrom_some _ _ _ (.inl q)⟩
  refine codeAny_call_function hr.depth (KX _ _ lk) rfl S.co S.gen rfl (PySem.W.codeRec_of KX hcd) (hbd _ _ _ _ (wpAny_newFunctionEnv_cells S.kind kinds fun env ee s1 ic => ?_))
  subst ee
  refine ⟨(he.mod.nolimit.keeps st).keeps ic.toInCall.keep, codeAny_func ?_⟩
  obtain ⟨t, ht, hq⟩ := hb cdv A outer s H vs Q E hg (hr.deeper _) hs
  have I := inv_start (CX := CX) (E := E) S hr.hd he hl hv ic
  refine wpAny_mono (ht.run [] s1 (L2.start N vs) H _ I hq) (fun fl s2 h2 => ?_) fun _ _ z => z
  cases fl with
  | ret u => obtain ⟨v, σ2, H2, J, rv, q⟩ := h2; exact ⟨v, H2, J.os, J.bare, J.base, J.hok, rv, q⟩
  | next => obtain ⟨σ2, H2, J, q⟩ := h2; exact ⟨.non, H2, J.os, J.bare, J.base, J.hok, rfl, q⟩
  | brk => obtain ⟨_, _, _, q⟩ := h2; exact False.elim q
  | cont => obtain ⟨_, _, _, q⟩ := h2; exact False.elim q
theorem fnG_lx {CX : CXT} {N ps : List Str} {k : Nat} {t : TS} {b : List Sl → W Out} (F : FunD K x qual params body scope dvs kws f fd) (S : FnScope N ps scope) (hl : LS K t b)
    (hb : ∀ (cdv : Value) (A : Around) (outer : List Env) (s : Shared) (H : Hp) (E : XK), (A.deeper (envOfC qual scope s.heap.objs.size f cdv)).guards = some [] → Room k (A.deeper (envOfC qual scope s.heap.objs.size f cdv)) → PSs (cxOf CX P w K mg base N qual scope f cdv A outer s H E).nox body t) :
    FnG P w K mg base CX (k + 1) f fd ps (Pr K ps.length (dBody N b)) :=
  fnG_of F S Pr.len fun cdv A outer s H vs Q E hg hr h => ⟨t, (hb cdv A outer s H E hg hr).nox, body_lx hl h⟩
end
section
variable {X : Cx} {CX : CXT} {k : Nat} {f : Addr} {fd : FuncData} {ps : List Str} {sp : Sp} {E : XK} {x : Str} {p pos : Pos} {e : Expr} {es : List Expr} {t : TA}
/-- a call of such a def -/
theorem pe_callG (hg : X.A.guards = some []) (F : FnG X.prog X.w X.K X.mg X.base CX k f fd ps sp) (hr : Room k X.A) (hgl : Gl X x) (hm : X.mg x = some (.ref f)) (hk : PySem.W.keepIn X.K (.ref f) = true) (hb : Binds X.K fd ps []) (hx : Passes CX X E)
    (ha : PA X (e :: es) t) (hdb : (x == ("__debug__" : Str)) = false := by decide) (he : starEach (e :: es) X.env = (false, eval e X.env) :: starEach es X.env := by rfl) (hpl : (backTo pos (starEach es X.env)).any (·.1) = false := by rfl) :
    PE X (.Call (.Name x p) (e :: es) [] pos) (tCall sp [] E t) := by
  refine ⟨fun pins s σ H Q I h => wpAny_Call_Name_kw (ld_glob I hgl hm ?_ hdb)⟩
  refine PySem.W.callWith_K (h₀ := X.base) I.ok.mod.kin hk (thn (ha.run pos pins s σ H _ I h) fun us s1 ⟨vs, H1, I1, r, q⟩ => ⟨I1.kIn, ?_⟩) he hpl
  have q : sp vs H1 Q E := by
    have q2 : sp (vs ++ []) H1 Q E := q
    rw [List.append_nil] at q2
    exact q2
  have hl : us.length = ps.length := by rw [← r.length]; exact F.len _ _ _ _ q
  have bd := hb s1 us I1.kIn (by rw [List.append_nil]; exact hl)
  rw [List.append_nil] at bd
  refine wpAny_call (codeAny_mono (F.run X.A X.stack s1 H1 ⟨us, []⟩ us vs Q E hg hr I1.env0 bd r q) fun rr s2 h2 => ?_)
  cases rr with
  | error er => exact hx pins σ H1 s1 er s2 I1 h2
  | ok fl => cases fl with
    | ret u => exact I1.after h2
    | next => exact False.elim h2
    | brk => exact False.elim h2
    | cont => exact False.elim h2
end

/-! ### the end: the law called where no repr runs -/
theorem law_end {P : Program} {w : World} {K : PySem.W.Frag} {mg mb : Str → Option Value} {CX : CXT} {k : Nat} {fa a : Addr} {fd : FuncData} {x : Str} {sp : Sp} {s1 : Shared} {vs : List Value} {ns : List Int}
    (KX : K.In s1.heap) (hns : s1.heap.Ns mainGlobals mg) (hb : s1.heap.Ns builtinsNs mb) (hbb : ∀ x : Str, x ≠ "__name__" → mb x = bootBuiltins x) (hlim : s1.heap.NoLimit) (hg : s1.gens = #[])
    (ha : s1.heap.get? a = some { cls := .type "list", data := .seq vs.toArray }) (hi : IntsAre vs ns) (hl : ns.length ≤ sizeLine) (hr : Room k callerA)
    (F : ∀ base : Heap, K.In base → base.Ns mainGlobals mg → FnG P w K mg base CX k fa fd [x] sp) (hbind : ∀ (s : Shared) (u : Value), BindsTo s fd ⟨[u], []⟩ [(x, u)])
    (hsp : ∀ H : Hp, Only H → SqL K H a (ns.map V.int) → sp [.ref a] H (fun v _ => v = .bl true) fun _ _ _ => False)
    (hCX : ∀ H e s', CX [] H s1 (fun _ _ _ => False) e s' → False) :
    codeAny (model P w) callerA (.call (.ref fa) ⟨[.ref a], []⟩) (fun r s' => r = .ok (.ret (.bool true)) ∧ OldK s1.heap s'.heap ∧ s'.os = s1.os ∧ AllBare s'.gens) s1 := by
  have key : ∀ H : Hp, Only H → SqL K H a (ns.map V.int) → HOk P w H s1.heap → (∀ b, H b ≠ none → b = a) → (H a ≠ none → K.lookup a = none) →
      codeAny (model P w) callerA (.call (.ref fa) ⟨[.ref a], []⟩) (fun r s' => r = .ok (.ret (.bool true)) ∧ OldK s1.heap s'.heap ∧ s'.os = s1.os ∧ AllBare s'.gens) s1 := by
    intro H hO hS hok hA hK
    have dictFree : ∀ {b : Addr} {o : Obj} {es : Array DictEntry} {ep : Nat}, s1.heap.get? b = some o → o.data = .dict es ep → H b = none := fun {b o es ep} e d => by
      by_cases z : H b = none
      · exact z
      · have e' := hA b z
        subst e'
        rw [ha] at e
        cases e
        cases d
    have ns_ : ∀ {b : Addr} {m : Str → Option Value}, s1.heap.Ns b m → (hidT s1.heap H).Ns b m := fun {b m} z => by
      obtain ⟨o, es, ep, e, d, r⟩ := z
      exact ⟨o, es, ep, hidT_get e (dictFree e d), d, r⟩
    have kin : K.In (hidT s1.heap H) := fun b o e => hidT_get (KX b o e) (by
      by_cases z : H b = none
      · exact z
      · have e' := hA b z
        subst e'
        rw [hK z] at e
        cases e)
    have md : Mod K mg (hidT s1.heap H) := by
      obtain ⟨mc, l1, l2⟩ := hlim
      exact ⟨kin, ns_ hns, ⟨mb, ns_ hb, hbb⟩, ⟨mc, ns_ l1, l2⟩⟩
    have e0 : Env0 P w K mg (hidT s1.heap H) callerA [] s1 H := ⟨rfl, md, fun b o e => of_hidT e, Nat.le_of_eq (hidT_size _ _), trivial, fun b z => absurd (show b ∈ ([] : List Addr) from z) (by simp), hok, .of_eq hg⟩
    refine codeAny_mono ((F _ kin (ns_ hns)).run callerA [] s1 H ⟨[.ref a], []⟩ [.ref a] [.ref a] _ _ rfl hr e0 (hbind s1 (.ref a)) (.cons rfl .nil) (hsp H hO hS)) fun r s2 h2 => ?_
    cases r with
    | error e => exact (hCX H e s2 h2).elim
    | ok fl => cases fl with
      | next => exact False.elim h2
      | brk => exact False.elim h2
      | cont => exact False.elim h2
      | ret u =>
        obtain ⟨v, H2, os, bare, un, hok2, r2, q⟩ := h2
        have q2 : v = .bl true := q
        subst q2
        have r3 : u = Value.bool true := r2
        subst r3
        refine ⟨rfl, OldK.of_keep fun b o e => ?_, os, bare⟩
        rcases hO b with z | ⟨ob, xs, z⟩
        · exact un.keep b o e z (fun y => absurd (show b ∈ ([] : List Addr) from y) (by simp)) (by simp)
        · have z2 := un.frzs b ob _ z
          have e1 := (hok b _ z).1
          rw [e] at e1
          cases e1
          exact (hok2 b _ z2).1
  have rv := vals_ints hi
  cases hk : K.lookup a with
  | some o =>
    have e := KX a o hk
    rw [ha] at e
    cases e
    have sq : SqL K (fun _ => none) a (ns.map V.int) := .inr ⟨_, vs.toArray, _, hk, rfl, rfl, rfl, by rw [List.size_toArray, hi.length]; exact hl, by simpa using rv⟩
    exact key (fun _ => none) (fun _ => .inl rfl) sq (fun b u z => nomatch (show (none : Option HO) = some u from z)) (fun b z => absurd rfl z) (fun z => absurd rfl z)
  | none =>
    let H : Hp := upd (fun _ => none) a (.frz { cls := .type "list", data := .seq vs.toArray } (.lst (ns.map V.int)))
    have at_ : H a = some (.frz { cls := .type "list", data := .seq vs.toArray } (.lst (ns.map V.int))) := upd_same
    have off : ∀ b, b ≠ a → H b = none := fun b hb => upd_ne hb
    refine key H (fun b => ?_) (.inl (.inr ⟨_, at_⟩)) (fun b u z => ?_) (fun b z => ?_) (fun _ => hk)
    · by_cases e : b = a
      · subst e; exact .inr ⟨_, _, at_⟩
      · exact .inl (off b e)
    · by_cases e : b = a
      · subst e
        rw [at_] at z
        cases z
        exact ⟨ha, by rw [List.length_map]; exact hl, vs, _, rv, ha⟩
      · rw [off b e] at z; cases z
    · by_cases e : b = a
      · exact e
      · exact absurd (off b e) z
/-- over a head's facts -/
theorem walk_G {l : PySem.W.OpenLaw} {n k : Nat} {q : Program} {loose : List Str} {XP : (Str → Option Value) → Heap → Prop} {YP : World → Heap → Prop} {d : DefRec} {CX : World → CXT} {x : Str}
    (hn : l.most = some n) (hn2 : n ≤ sizeLine) (hdf : d.params.defaults = []) (hr : Room k callerA)
    (F : ∀ (w : World) (mg : Str → Option Value) (fa : Addr) (h : Heap), YP w h → h.Ns mainGlobals mg → mg d.name = some (.ref fa) →
      ∃ (K : PySem.W.Frag) (fd : FuncData) (sp : Sp), K.In h ∧ (∀ (s : Shared) (u : Value), BindsTo s fd ⟨[u], []⟩ [(x, u)]) ∧
        (∀ (H : Hp) (a : Addr) (ns : List Int), ns.length ≤ n → Only H → SqL K H a (ns.map V.int) → sp [.ref a] H (fun v _ => v = .bl true) fun _ _ _ => False) ∧
        ∀ base : Heap, K.In base → base.Ns mainGlobals mg → FnG l.prog w K mg base (CX w) k fa fd [x] sp)
    (hCX : ∀ (w : World) (H : Hp) (s : Shared) (e : Value) (s' : Shared), CX w [] H s (fun _ _ _ => False) e s' → False) :
    PySem.W.WalkO q loose XP YP l.row.toRowW d [] (fun f vs => PySem.call f vs) := by
  refine Att.attach_call hn hdf fun w s0 s1 mg mb fa o pm cd doc a vs ns G Y ho hd hcd hmg hobj hints hlen hg => ?_
  obtain ⟨K, fd, sp, KX, hb, hsp, hF⟩ := F w mg fa _ Y G.T.g hmg
  exact law_end KX G.T.g G.T.b G.T.builtins G.T.nolimit hg hobj hints (Nat.le_trans hlen hn2) hr hF hb (fun H hO hS => hsp H a ns hlen hO hS) fun H e s' => hCX w H s1 e s'
end Lx
set_option Elab.async false
set_option linter.all false
set_option maxRecDepth 100000
set_option maxHeartbeats 4000000
/-! Lx8: len(set(text)), max(xs, default=d), sum(xs, []). -/
namespace Lx
open PySem PySem.Spec L2 PyProof.Rows
def uniq : List Nat → List Nat → List Nat
  | acc, [] => acc
  | acc, c :: r => if c ∈ acc then uniq acc r else uniq (c :: acc) r
def sgn (c : Nat) : Str := ⟨#[c]⟩
theorem sgn_inj {a b : Nat} (h : sgn a = sgn b) : a = b := by
  have h1 : (#[a] : Array Nat) = #[b] := congrArg Str.cps h
  simpa using h1
section
variable {prog : Program} {w : World} {A : Around} {R : Result → Shared → Prop} {I : Addr} {fp wr : List Addr} {n : Nat} {St : Nat → Heap → Prop}
theorem set_loop {x : Str} (W : Walks prog w A.in1 I fp wr n (SignAt x) St) (hn : n = x.cps.size) (hfp : n < 4000) (S : Addr) (hSf : S ∉ fp) (hSw : S ∉ wr) : ∀ (cs : List Nat) (i : Nat) (acc : List Nat) (s : Shared), x.cps.toList.drop i = cs → i + cs.length = n → St i s.heap → acc.length ≤ i →
      s.heap.SetOf (PySem.strKind prog w) S (fun k' => acc.any fun c => sgn c == k') acc.length →
      (∀ h' tk, (∀ b o, b ∉ S :: wr → s.heap.get? b = some o → h'.get? b = some o) → h'.SetOf (PySem.strKind prog w) S (fun k' => (uniq acc cs).any fun c => sgn c == k') (uniq acc cs).length → R (.ok (.ret .none)) { s with heap := h', toks := tk }) →
      codeAny (model prog w) A (.builtin "set.update.loop" ⟨[.ref S, .ref I], []⟩) R s
  | [], i, acc, s, hd, hi, hst, ha, hS, hR => by
    have hin : i = n := by simpa using hi
    subst hin
    refine codeAny_builtin PyProof.Rows.F.entry_set_update_loop ?_
    rw [Around.under_plainId PyProof.Rows.F.plain_set_update_loop _]
    show wpAny _ A.in1 (pyNext (.ref I) >>= _) _ _ s
    refine wpAny_bind (W.done s _ _ hst fun h' tk' hm => ?_)
    show wpAny _ A.in1 (ret Value.none) _ _ _
    refine wpAny_pure (hR _ _ (fun b o hb e => hm b o (fun z => hb (List.mem_cons_of_mem _ z)) e) ?_)
    obtain ⟨o, es, ep, t, ho, rest⟩ := hS
    exact ⟨o, es, ep, t, hm S _ hSw ho, rest⟩
  | c :: r, i, acc, s, hd, hi, hst, ha, hS, hR => by
    have hlt : i < n := by simp at hi; omega
    have hsub : ∀ b, b ∉ S :: wr → b ∉ wr := fun b hb z => hb (List.mem_cons_of_mem _ z)
    obtain ⟨hx, hd2⟩ : x.cps[i]? = some c ∧ x.cps.toList.drop (i + 1) = r := by
      have h1 : x.cps.toList[i]? = some c := by
        have := congrArg (·[0]?) hd
        simpa using this
      refine ⟨by simpa using h1, ?_⟩
      have := congrArg (·.drop 1) hd
      simpa [List.drop_drop, Nat.add_comm] using this
    refine codeAny_builtin PyProof.Rows.F.entry_set_update_loop ?_
    rw [Around.under_plainId PyProof.Rows.F.plain_set_update_loop _]
    show wpAny _ A.in1 (pyNext (.ref I) >>= _) _ _ s
    refine wpAny_bind (W.item i s _ _ hlt hst fun v h1 tk hP hst' hm => ?_)
    obtain ⟨c', t, hc', rfl⟩ := hP
    rw [hx] at hc'
    cases hc'
    have hS' : h1.SetOf (PySem.strKind prog w) S (fun k' => acc.any fun c => sgn c == k') acc.length := by
      obtain ⟨o, es, ep, tb, ho, rest⟩ := hS
      exact ⟨o, es, ep, tb, hm S _ hSw ho, rest⟩
    show wpAny _ A.in1 (holding [Value.str (sgn c) t] (setAdd S (.str (sgn c) t)) >>= _) _ _ _
    refine wpAny_bind (wpAny_holding ?_)
    unfold setAdd
    refine wpAny_holding ?_
    refine wpAny_bind ((PySem.strKind prog w).pyHash (k := sgn c) (strKind_is _ _ _ _) ?_)
    refine wpAny_setAddHashed_of (knd := PySem.strKind prog w) (strKind_is _ _ _ _) rfl hS' (by unfold scanBound; omega) fun h' hsb hS2 => ?_
    have hmem : (acc.any fun d => sgn d == sgn c) = decide (c ∈ acc) := by
      rw [Bool.eq_iff_iff, List.any_eq_true, decide_eq_true_iff]
      constructor
      · rintro ⟨d, hd, e⟩
        rw [sgn_inj (eq_of_beq e)] at hd
        exact hd
      · intro h; exact ⟨c, h, beq_self_eq_true _⟩
    have hSi : h'.SetOf (PySem.strKind prog w) S (fun k' => (if c ∈ acc then acc else c :: acc).any fun c => sgn c == k') (if c ∈ acc then acc else c :: acc).length := by
      refine SetOf_congr hS2 (fun k' => ?_) ?_
      · by_cases hc : c ∈ acc
        · rw [if_pos hc]
          by_cases e : k' = sgn c
          · subst e; rw [hmem, decide_eq_true hc]; rfl
          · rw [decide_eq_false e, Bool.or_false]
        · rw [if_neg hc, List.any_cons, Bool.or_comm]
          congr 1
          by_cases e : k' = sgn c
          · subst e; simp
          · rw [decide_eq_false e]
            exact (beq_eq_false_iff_ne.mpr fun z => e z.symm).symm
      · rw [hmem]
        by_cases hc : c ∈ acc <;> simp [hc]
    have hu : uniq acc (c :: r) = uniq (if c ∈ acc then acc else c :: acc) r := by
      by_cases hc : c ∈ acc <;> simp [uniq, hc]
    refine wpAny_pure ⟨plainId_quiet PyProof.Rows.F.plain_set_update_loop _, set_loop W hn hfp S hSf hSw r (i + 1) _ _ hd2 (by simp at hi; omega) (W.frame _ _ _ hst' fun b hb o e => ?_) (by split <;> (try simp only [List.length_cons]) <;> omega) hSi fun h'' tk'' hm'' hS'' => ?_⟩
    · rw [hsb.2 b (fun h : b = S => hSf (by rw [← h]; exact hb))]; exact e
    · rw [← hu] at hS''
      refine hR h'' tk'' (fun b o hb e => hm'' b o hb ?_) hS''
      rw [hsb.2 b (fun h : b = S => hb (by rw [h]; exact List.mem_cons_self))]
      exact hm b o (hsub b hb) e
end
section
variable {prog : Program} {w : World} {A : Around} {E : Value → Shared → Prop} {s : Shared}
theorem call_set_text {x : Str} {u : Tok} {Q : Value → Shared → Prop} (hh : A.handled = none) (hn : x.cps.size < 4000)
    (h : ∀ (h' : Heap) (tk : Nat), h'.SetOf (PySem.strKind prog w) s.heap.objs.size (fun k' => (uniq [] x.cps.toList).any fun c => sgn c == k') (uniq [] x.cps.toList).length →
      (∀ b o, b < s.heap.objs.size → s.heap.get? b = some o → h'.get? b = some o) → Q (.ref s.heap.objs.size) { s with heap := h', toks := tk }) :
    wpAny (model prog w) A (call (.type "set") [.str x u]) Q E s := by
  obtain ⟨c, tl, hmro⟩ := PySem.F.called_set.mro
  have hmade := PySem.F.called_set.made
  have hsub := PySem.F.called_set.sub
  refine wpAny_call (codeAny_of_tree ?_)
  show wpAny _ _ (callAny (.type "set") _) _ _ _
  refine wpAny_pure ⟨Code.quiet_builtin _ (by decide +kernel), codeAny_builtin PySem.F.entry_type_call ?_⟩
  rw [Around.under_plain (weight_type_call_type "set" [.str x u] []) rfl]
  have h1 := PySem.F.called_set.notType
  have h2 := PySem.F.called_set.canCreate
  have hct := PySem.F.typeCall_set_1 (.str x u)
  repeat (any_goals (first | assumption | wp_step))
  refine codeAny_mono (code_set_new_1 (.str x u) (E := E) (Q₁ := fun obj s₁ => ∃ led : Bool, obj = .ref s.heap.objs.size ∧ s₁ = { s with heap := s.heap.push { cls := .type "set", dict := none, data := .set #[] 0 (.fresh 0 0 led) } }) fun led => ⟨led, rfl, rfl⟩) fun r s₁ hr => ?_
  cases r with
  | error e => exact hr
  | ok fl =>
    cases fl with
    | ret obj =>
      obtain ⟨led, rfl, rfl⟩ := hr
      have hS : (s.heap.push { cls := .type "set", dict := none, data := .set #[] 0 (.fresh 0 0 led) }).get? s.heap.objs.size = some { cls := .type "set", dict := none, data := .set #[] 0 (.fresh 0 0 led) } := Heap.get?_push_size _ rfl
      have hT : Shared.TypeIs { s with heap := s.heap.push { cls := .type "set", dict := none, data := .set #[] 0 (.fresh 0 0 led) } } (.ref s.heap.objs.size) "set" := ⟨_, hS, rfl⟩
      have hli := PySem.F.called_set.init.lookup
      have hbi := PySem.F.called_set.init.bind (.ref s.heap.objs.size)
      repeat (any_goals (first | assumption | wp_step))
      refine codeAny_mono (codeAny_call_builtin (R := wants (fun r s₂ => r = .none ∧ ∃ h' tk, s₂ = { s with heap := h', toks := tk } ∧
          h'.SetOf (PySem.strKind prog w) s.heap.objs.size (fun k' => (uniq [] x.cps.toList).any fun c => sgn c == k') (uniq [] x.cps.toList).length ∧
          (∀ b o, b < s.heap.objs.size → s.heap.get? b = some o → h'.get? b = some o)) E) PySem.F.called_set.init.plain PySem.F.entry_set_init (check_set_init_1 hT ?_)) fun r₂ s₂ hr₂ => ?_
      · have hsls := PySem.F.sub_str_set
        have hslf := PySem.F.sub_str_frozenset
        have hne : (Value.type "str" == Value.type "dict") = false := by decide
        unfold Builtin.«set.__init__» noKeywords Builtin.Frozenset.updateFrom
        generalize hPI : pyIter = PI
        wp_walk
        subst hPI
        refine wpAny_pyIter_str fun o St hW hst => ?_
        refine wpAny_bind (wpAny_runValue ?_)
        have hh3 : A.in1.in1.in1.handled = none := by simp [hh]
        have hSf : s.heap.objs.size ∉ [(s.heap.push { cls := .type "set", dict := none, data := .set #[] 0 (.fresh 0 0 led) }).objs.size] := by
          rw [Heap.size_push]; simp
        refine set_loop (hW _ hh3) rfl hn s.heap.objs.size hSf hSf x.cps.toList 0 [] _ rfl (by simp) hst (Nat.zero_le _) ?hS0 ?hR
        case hS0 =>
          have hget : ((s.heap.push { cls := .type "set", dict := none, data := .set #[] 0 (.fresh 0 0 led) }).push o).get? s.heap.objs.size
              = some { cls := .type "set", dict := none, data := .set #[] 0 (.fresh 0 0 led) } := Heap.get?_push_of_some _ hS
          exact PyProof.Rows.SetOf_congr ((PyProof.Rows.setObjOf_fresh (knd := PySem.strKind prog w) led).setOf hget (by unfold scanBound; omega)) (fun _ => rfl) rfl
        case hR =>
          intro h' tk' hm hS'
          show wpAny _ _ _ _ _ _
          refine wpAny_pure ?_
          show wpAny _ _ (ret Value.none) _ _ _
          refine wpAny_pure ⟨rfl, h', tk', rfl, hS', fun b o hb e => ?_⟩
          have hb1 : b ≠ s.heap.objs.size := Nat.ne_of_lt hb
          have hb2 : b ≠ (s.heap.push { cls := .type "set", dict := none, data := .set #[] 0 (.fresh 0 0 led) }).objs.size := by
            rw [Heap.size_push]; exact Nat.ne_of_lt (Nat.lt_succ_of_lt hb)
          exact hm b o (by simp only [List.mem_cons, List.mem_singleton, List.not_mem_nil, or_false, not_or]; exact ⟨hb1, hb2⟩) (Heap.get?_push_of_some _ (Heap.get?_push_of_some _ e))
      · cases r₂ with
        | error e => exact hr₂
        | ok fl₂ =>
          cases fl₂ with
          | ret r =>
            obtain ⟨rfl, h', tk, rfl, hS', hk'⟩ := hr₂
            repeat (any_goals (first | assumption | wp_step))
            exact h _ _ hS' hk'
          | _ => exact hr₂.elim
    | _ => exact hr.elim
end
/-- len(set(x)), x a text -/
def tLenSetS (ta : TE) : TE := fun σ H Q => ta σ H fun x H1 => ∃ y, x = .str y ∧ y.cps.size < 4000 ∧ Q (.int (uniq [] y.cps.toList).length) H1
section
variable {X : Cx}
theorem pe_lenSetS {a : Expr} {ta : TE} {p p2 q pos : Pos} (hc : X.calm = true) (hg : Gl X "len") (hm : X.mg "len" = none) (hg2 : Gl X "set") (hm2 : X.mg "set" = none) (ha : PE X a ta)
    (na : starEach [a] X.env = (false, eval a X.env) :: starEach [] X.env := by rfl) : PE X (.Call (.Name "len" p) [.Call (.Name "set" p2) [a] [] q] [] pos) (tLenSetS ta) := by
  refine ⟨fun pins s σ H Q I h => ?_⟩
  refine Call_ (ld_blt I hg hm boot_len ?_)
  refine PyProof.Rows.callWith_builtin1 (PyProof.Rows.args_cons ?_ rfl) rfl rfl
  refine Call_ (ld_blt I hg2 hm2 boot_set ?_)
  refine PyProof.Rows.callWith_type1 (PyProof.Rows.args_cons (thn (ha.run pins s σ H _ I h) fun v s1 ⟨x, H1, I1, r1, q1⟩ => PyProof.Rows.args_nil ?_) na) na rfl
  obtain ⟨y, rfl, hy, q1⟩ := q1
  obtain ⟨u, rfl⟩ := r1
  refine call_set_text (I1.ok.hd hc) hy fun h' tk hS hk => ?_
  refine PyProof.Rows.args_nil ?_
  obtain ⟨o, es, ep, t, ho, hex, hd, _, _, hb, hf, hn⟩ := hS
  have I2 : Inv X pins σ H1 { s1 with heap := h', toks := tk } := I1.kept fun b o e => hk b o (Heap.lt_size e) e
  refine call_len_set ho hex hd hf (by have : es.size < 4096 := hb; omega) ⟨.int (uniq [] y.cps.toList).length, H1, I2.tok _, ⟨_, by rw [hn]⟩, q1⟩
end
@[reducible] def dLenSet (fa : List Sl → W D) : List Sl → W D := fun δ => (fa δ).bind fun x => match x with
  | .str y => W.need (y.cps.size < 4000) (W.ret (.int (uniq [] y.cps.toList).length))
  | _ => W.stuck
theorem le_lenSet {K : PySem.W.Frag} {ta : TE} {fa : List Sl → W D} (ha : LE K ta fa) : LE K (tLenSetS ta) (dLenSet fa) := fun pn H0 F H n σ δ Q o s h => by
  refine ha pn H0 F H n σ δ _ o s ((fa δ).mono (fun m x q => ?_) (fun _ _ z => z) h)
  intro v F1 H1 g1 o1 r1
  cases r1 with
  | str y => exact ⟨y, rfl, q.1, q.2 _ F1 H1 g1 o1 (.int _)⟩
  | _ => exact q.elim
end Lx
set_option Elab.async false
set_option linter.all false
set_option maxRecDepth 100000
set_option maxHeartbeats 4000000
/-! Lx9: max(xs, default=d) of ints, sum(xs, start) of lists. -/
namespace Lx
open PySem PySem.Spec L2 PyProof.Rows
/-! ### max -/
def tMaxD (K : PySem.W.Frag) (ta td : TE) : TE := fun σ H Q => ta σ H fun x H1 => td σ H1 fun d H2 => ∃ (a : Addr) (ns : List Int), x = .ref a ∧ SqL K H2 a (ns.map V.int) ∧ (ns = [] → Q d H2) ∧ ∀ y ys, ns = y :: ys → Q (.int (ys.foldl max y)) H2
theorem alike_ints (ns : List Int) : PySem.W.AlikeAll (ns.map PyData.int) := by
  refine ⟨fun x hx y hy => ?_, fun x hx => ?_⟩
  · obtain ⟨i, _, rfl⟩ := List.mem_map.mp hx
    obtain ⟨j, _, rfl⟩ := List.mem_map.mp hy
    rfl
  · obtain ⟨i, _, rfl⟩ := List.mem_map.mp hx
    exact fun z => by cases z
theorem dp_ints {K : PySem.W.Frag} {H : Hp} : ∀ ns : List Int, DpAll K H (ns.map V.int) (ns.map PyData.int)
  | [] => .nil
  | n :: r => .cons (.int n) (dp_ints r)
theorem depth_ints : ∀ ns : List Int, PyData.depthAll (ns.map PyData.int) = 0
  | [] => rfl
  | n :: r => by
    show max (PyData.depth (.int n)) (PyData.depthAll (r.map PyData.int)) = 0
    rw [depth_ints r]; rfl
section
variable {X : Cx}
theorem pe_maxD {e d : Expr} {ta td : TE} {p pos kp : Pos} (hc : X.calm = true) (hu : X.A.units + 64 < cLine) (hg : Gl X "max") (hm : X.mg "max" = none) (ha : PE X e ta) (hd : PE X d td)
    (na : backTo pos (starEach [e] X.env) = (false, eval e X.env) :: backTo pos (starEach [] X.env) := by rfl) (hpl : (backTo pos (starEach [e] X.env)).any (·.1) = false := by rfl) :
    PE X (.Call (.Name "max" p) [e] [⟨some "default", d, kp⟩] pos) (tMaxD X.K ta td) := by
  refine ⟨fun pins s σ H Q I h => wpAny_Call_Name_kw (ld_blt I hg hm boot_max ?_)⟩
  refine callWith_kw ?_ na hpl
  rw [na]
  refine Calls.spliced_cons (thn (ha.run pins s σ H _ I h) fun v s1 ⟨x, H1, I1, r1, q1⟩ => Calls.spliced_nil ?_)
  refine kws_cons (thn (hd.run pins s1 σ H1 _ I1 q1) fun u s2 ⟨y, H2, I2, r2, q2⟩ => kws_nil ?_)
  obtain ⟨a, ns, rfl, hq, q0, qs⟩ := q2
  cases r1
  obtain ⟨its, r, pl, hz⟩ := I2.list hq
  obtain ⟨as, hr⟩ := Dp.readsAll I2 (ns.map PyData.int) (ns.map V.int) its (dp_ints ns) r
  show wpAny _ _ (call (.builtin "max") [.ref a] [(Str.ofString "default", u)]) _ _ _
  refine PySem.W.max_list_default (I2.ok.hd hc) pl.isList (by simpa using hr) (alike_ints ns) (by rw [depth_ints]; omega) (fun hn h' tk hk => ?_) (fun z zs i w h' tk bs hn hi hrd hk => ?_)
  · have hn : ns = [] := by simpa using hn
    exact ⟨y, H2, I2.kept hk, r2, q0 hn⟩
  · cases ns with
    | nil => cases hn
    | cons n ns =>
      have hn : PyData.int n :: ns.map PyData.int = z :: zs := hn
      injection hn with h1 h2
      subst h1 h2
      rw [PySem.W.maxD_ints] at hrd
      refine ⟨.int (ns.foldl max n), H2, I2.kept hk, ?_, qs n ns rfl⟩
      cases hrd
      exact ⟨_, rfl⟩
end
def intsD : List D → Option (List Int)
  | [] => some []
  | .int i :: r => (intsD r).map (i :: ·)
  | _ => none
theorem ints_rep {K : PySem.W.Frag} {pn : Addr} {F : Hp} : ∀ {vs : List V} {ds : List D} {ns : List Int}, RepL K pn F vs ds → intsD ds = some ns → vs = ns.map V.int
  | _, _, _, .nil, h => by cases h; rfl
  | _, _, _, .cons (d := d) (ds := ds) a r, h => by
    cases a with
    | int i =>
      unfold intsD at h
      cases e : intsD ds with
      | none => rw [e] at h; cases h
      | some ns => rw [e] at h; cases h; rw [ints_rep r e]; rfl
    | _ => cases h
@[reducible] def dMaxD (fa fd : List Sl → W D) : List Sl → W D := fun δ => (fa δ).bind fun x => (fd δ).bind fun d => match x with
  | .lst xs => (match intsD xs with
    | some [] => W.ret d
    | some (y :: ys) => W.ret (.int (ys.foldl max y))
    | none => W.stuck)
  | _ => W.stuck
theorem le_maxD {K : PySem.W.Frag} {ta td : TE} {fa fd : List Sl → W D} (ha : LE K ta fa) (hd : LE K td fd) : LE K (tMaxD K ta td) (dMaxD fa fd) := fun pn H0 F H n σ δ Q o s h => by
  refine ha pn H0 F H n σ δ _ o s ((fa δ).mono (fun m x q => ?_) (fun _ _ z => z) h)
  intro v F1 H1 g1 o1 r1
  refine hd pn H0 F1 H1 m σ δ _ o1 (s.go g1) ((fd δ).mono (fun m2 y q2 => ?_) (fun _ _ z => z) q)
  intro u F2 H2 g2 o2 r2
  cases r1 with
  | @lst a vs ds hf rf =>
    dsimp only at q2
    cases e : intsD ds with
    | none => rw [e] at q2; exact q2.elim
    | some ns =>
      rw [e] at q2
      have ev := ints_rep rf e
      subst ev
      refine ⟨a, ns, rfl, SqL.of (o2.fro _ _ (g2.sub _ _ hf)), fun hn => ?_, fun y ys hn => ?_⟩
      · subst hn; exact q2 u F2 H2 (g1.trans g2 o2.fpn) o2 r2
      · subst hn; exact q2 _ F2 H2 (g1.trans g2 o2.fpn) o2 (.int _)
  | _ => exact q2.elim

/-! ### sum -/
def catA (its : Nat → List Value) : Nat → Nat → List Value
  | _, 0 => []
  | i, k + 1 => its i ++ catA its (i + 1) k
section
variable {prog : Program} {w : World} {A : Around} {R : Result → Shared → Prop} {I : Addr} {fp wr : List Addr} {G : Array GenState → Array GenState → Prop} {n : Nat} {P : Nat → Value → Prop} {St : Nat → Shared → Prop}
theorem sum_loopL (W : WalksS prog w A.in1 I fp wr G n P St) (S : Addr) (hSf : S ∉ fp) (its : Nat → List Value) (b nn : Nat → Nat) (hval : ∀ i v, P i v → v = .ref (b i)) (hbw : ∀ i, i < n → b i ∉ wr ∧ b i ≠ S) (hwr : ∀ x ∈ wr, x < S) :
    ∀ (k i : Nat) (s : Shared) (tot : Addr) (acc : List Value) (na c : Nat), n - i = k → i ≤ n → St i s → s.heap.get? S = some { cls := .type "list", dict := none, data := .seq #[.ref tot] c, slots := #[] } →
      s.heap.get? tot = some { cls := .type "list", data := .seq acc.toArray na } → tot ∉ wr → tot ≠ S → (∀ j, j < n → s.heap.get? (b j) = some { cls := .type "list", data := .seq (its j).toArray (nn j) }) → acc.length + (catA its i k).length ≤ sizeLine →
      (∀ s' tot' na', Moved (S :: wr) G s s' → s'.heap.get? tot' = some { cls := .type "list", data := .seq (acc ++ catA its i k).toArray na' } → (k = 0 → tot' = tot) → (k ≠ 0 → S < tot') → R (.ok (.ret (.ref tot'))) s') →
      codeAny (model prog w) A (.builtin "sum.loop" ⟨[.ref I, .ref S, rawInt 2, rawInt 0], []⟩) R s := by
  have hSw : S ∉ wr := fun h => hSf (W.sub _ h)
  have hsub : ∀ b ∈ wr, b ∈ S :: wr := fun b hb => List.mem_cons_of_mem _ hb
  intro k
  induction k with
  | zero =>
    intro i s tot acc na c hk hi hst hS ht htw hts hb hl hR
    have hin : i = n := by omega
    subst hin
    refine codeAny_builtin F.entry_sum_loop ?_
    rw [Around.under_plainId F.plain_sum_loop _]
    show wpAny _ A.in1 (seqItems? (.ref S) >>= _) _ _ s
    refine wpAny_bind (wpAny_seqItems hS rfl ?_)
    show wpAny _ A.in1 (tryCatch (pyNext (.ref I)) _ >>= _) _ _ s
    refine wpAny_bind (wpAny_tryCatch (W.done s _ _ hst fun s' hm => ?_))
    refine wpAny_pure (hR s' tot na (hm.mono hsub) ?_ (fun _ => rfl) (fun z => absurd rfl z))
    rw [show acc ++ catA its i 0 = acc from List.append_nil acc]
    exact hm.heap tot _ htw ht
  | succ k ih =>
    intro i s tot acc na c hk hi hst hS ht htw hts hb hl hR
    have hlt : i < n := by omega
    refine codeAny_builtin F.entry_sum_loop ?_
    rw [Around.under_plainId F.plain_sum_loop _]
    show wpAny _ A.in1 (seqItems? (.ref S) >>= _) _ _ s
    refine wpAny_bind (wpAny_seqItems hS rfl ?_)
    show wpAny _ A.in1 (tryCatch (pyNext (.ref I)) _ >>= _) _ _ s
    refine wpAny_bind (wpAny_tryCatch (W.item i s _ _ hlt hst fun v s' hP hst' hm => ?_))
    cases hval i v hP
    have hS' := hm.heap S _ hSw hS
    have ht' := hm.heap tot _ htw ht
    have hb' := hm.heap (b i) _ (hbw i hlt).1 (hb i hlt)
    have hlen : (catA its i (k + 1)).length = (its i).length + (catA its (i + 1) k).length := by show (its i ++ _).length = _; rw [List.length_append]
    show wpAny _ A.in1 ((holding [Value.ref (b i)] (binaryOp .Add (.ref tot) (.ref (b i)))).attempt >>= _) _ _ _
    refine wpAny_bind (wpAny_attempt (wpAny_holding (PySem.P.add_list ht' hb' ?_ (by rw [List.size_toArray, List.size_toArray]; omega))))
    have hSlt : S < s'.heap.objs.size := Heap.lt_size hS'
    have hS1 : (s'.heap.push { cls := .type "list", data := .seq (acc.toArray ++ (its i).toArray) }).get? S = some { cls := .type "list", dict := none, data := .seq #[.ref tot] c, slots := #[] } := Heap.get?_push_of_some _ hS'
    show wpAny _ A.in1 (updateSeq S (fun _ => #[.ref s'.heap.objs.size]) >>= _) _ _ _
    refine wpAny_bind (wpAny_updateSeq hS1 rfl ?_)
    have hS₂ := Heap.get?_update_self (Obj.mapSeq fun _ => #[Value.ref s'.heap.objs.size]) hS1 rfl
    refine wpAny_bind (wpAny_letGo ?_)
    have keep : ∀ x o, x ≠ S → s'.heap.get? x = some o → ((((s'.heap.push { cls := .type "list", data := .seq (acc.toArray ++ (its i).toArray) }).update S (Obj.mapSeq fun _ => #[Value.ref s'.heap.objs.size])).update S (Obj.mapSeq fun _ => #[Value.ref s'.heap.objs.size]))).get? x = some o := fun x o hx e =>
      (Heap.get?_update_other _ _ (Ne.symm hx)).trans ((Heap.get?_update_other _ _ (Ne.symm hx)).trans (Heap.get?_push_of_some _ e))
    have hn1 : (((s'.heap.push { cls := .type "list", data := .seq (acc.toArray ++ (its i).toArray) }).update S (Obj.mapSeq fun _ => #[Value.ref s'.heap.objs.size])).update S (Obj.mapSeq fun _ => #[Value.ref s'.heap.objs.size])).get? s'.heap.objs.size = some { cls := .type "list", data := .seq (acc ++ its i).toArray 0 } := by
      refine (Heap.get?_update_other _ _ (Nat.ne_of_lt hSlt)).trans ((Heap.get?_update_other _ _ (Nat.ne_of_lt hSlt)).trans ?_)
      rw [show acc.toArray ++ (its i).toArray = (acc ++ its i).toArray by simp]
      exact Heap.get?_push_size _ rfl
    refine wpAny_bind (wpAny_updateSeq hS₂ rfl (wpAny_pure ⟨plainId_quiet F.plain_sum_loop _, ih (i + 1) _ s'.heap.objs.size (acc ++ its i) 0 _ (by omega) hlt (W.frame _ s' _ _ hst' (Nat.le_refl _) fun x hx o e => ?_) (Heap.get?_update_self _ hS₂ rfl) hn1 (fun hz => ?_) (Nat.ne_of_gt hSlt) (fun j hj => ?_) (by rw [List.length_append]; omega) fun s'' tot'' na'' hm'' hl'' h0 h1 => ?_⟩))
    · exact keep x o (fun h => hSf (by rw [← h]; exact hx)) e
    · exact absurd (hwr _ hz) (Nat.lt_asymm hSlt)
    · exact keep _ _ (hbw j hj).2 (hm.heap _ _ (hbw j hj).1 (hb j hj))
    · refine hR s'' tot'' na'' (Moved.trans W.gtrans ((hm.mono hsub).then_heap (Nat.le_refl _) fun x o hx e => keep x o (fun h => hx (by rw [h]; exact List.mem_cons_self)) e) hm'') ?_ (fun z => nomatch z) fun _ => ?_
      · rw [show acc ++ catA its i (k + 1) = (acc ++ its i) ++ catA its (i + 1) k from (List.append_assoc _ _ _).symm]
        exact hl''
      · cases k with
        | zero => rw [h0 rfl]; exact hSlt
        | succ k => exact h1 (by omega)
end
section
variable {prog : Program} {w : World} {A : Around} {E : Value → Shared → Prop} {s : Shared}
theorem args_sum2 (a b : Value) : argsOk "sum" ⟨[a, b], []⟩ := by unfold argsOk; kernel_rfl
theorem call_sum_lists {l p : Addr} {vs : List Value} {acc : List Value} {na : Nat} {its : Nat → List Value} {b nn : Nat → Nat} {Q : Value → Shared → Prop} (hh : A.handled = none) (hl : s.heap.IsList l vs.toArray)
    (hp : s.heap.get? p = some { cls := .type "list", data := .seq acc.toArray na }) (hval : ∀ (i : Nat) (v : Value), vs[i]? = some v → v = .ref (b i)) (hb : ∀ j, j < vs.length → s.heap.get? (b j) = some { cls := .type "list", data := .seq (its j).toArray (nn j) })
    (hz : acc.length + (catA its 0 vs.length).length ≤ sizeLine)
    (h : ∀ h' tk q nq, (∀ x o, s.heap.get? x = some o → h'.get? x = some o) → h'.get? q = some { cls := .type "list", data := .seq (acc ++ catA its 0 vs.length).toArray nq } → (vs.length = 0 → q = p) → (vs.length ≠ 0 → s.heap.objs.size ≤ q) → Q (.ref q) { s with heap := h', toks := tk }) :
    wpAny (model prog w) A (call (.builtin "sum") [.ref l, .ref p]) Q E s := by
  refine call_function_tree F.kind_sum F.plain_sum F.entry_sum (args_sum2 _ _) ?_
  unfold Builtin.«sum»
  simp only [List.length_cons, List.length_nil]
  rw [if_neg (by decide)]
  refine wpAny_bind (wpAny_of_eq (show Builtin.Builtins.bindParams "sum" ["start"] 0 ⟨[.ref p], []⟩ = pure [some (.ref p)] from rfl) ?_)
  refine wpAny_bind (PySem.W.iter_listW (A := A.in1) hh hl fun s₂ e W st hfp hw hk => ?_)
  refine wpAny_bind (wpAny_pure ?_)
  have hp2 : s₂.heap.get? p = some { cls := .type "list", data := .seq acc.toArray na } := hk _ _ hp
  have ty : s₂.TypeIs (.ref p) "list" := ⟨_, hp2, rfl⟩
  simp only [List.forIn_cons, List.forIn_nil]
  refine wpAny_bind (wpAny_bind (wpAny_bind (wpAny_isInstance (T := "list") (b := false) ty F.sub_list_str ?_)))
  simp only [Bool.false_eq_true, if_false]
  refine wpAny_pure (wpAny_bind (wpAny_bind (wpAny_isInstance (T := "list") (b := false) ty F.sub_list_bytes ?_)))
  simp only [Bool.false_eq_true, if_false]
  refine wpAny_pure (wpAny_bind (wpAny_bind (wpAny_isInstance (T := "list") (b := false) ty F.sub_list_bytearray ?_)))
  simp only [Bool.false_eq_true, if_false]
  refine wpAny_pure (wpAny_pure ?_)
  refine wpAny_bind (wpAny_newObj_type ?_)
  have hsz : s.heap.objs.size < s₂.heap.objs.size := hfp _ List.mem_cons_self
  have hSf : s₂.heap.objs.size ∉ [s.heap.objs.size, l] := fun hm => Nat.lt_irrefl _ (hfp _ hm)
  have hlt : ∀ {x : Addr} {o : Obj}, s.heap.get? x = some o → x ∉ [s.heap.objs.size] ∧ x ≠ s₂.heap.objs.size := fun {x o} e => ⟨hw _ _ e, Nat.ne_of_lt (Nat.lt_trans (Heap.lt_size e) hsz)⟩
  refine wpAny_pure ⟨plainId_quiet F.plain_sum_loop _, sum_loopL W s₂.heap.objs.size hSf its b nn (fun i v hv => hval i v (by simpa using hv)) (fun i hi => hlt (hb i (by simpa using hi))) (fun x hx => by rw [List.mem_singleton.mp hx]; exact hsz)
    vs.toArray.size 0 _ p acc na 0 rfl (Nat.zero_le _) (W.frame 0 s₂ _ _ st (Nat.le_refl _) fun x _ o e => Heap.get?_push_of_some _ e) (Heap.get?_push_size _ rfl) (Heap.get?_push_of_some _ hp2) (hlt hp).1 (hlt hp).2 (fun j hj => Heap.get?_push_of_some _ (hk _ _ (hb j (by simpa using hj)))) (by simpa using hz) fun s' tot' na' hm hq h0 h1 => ?_⟩
  obtain ⟨hp', g, d, tk, os⟩ := s'
  have e1 : g = s₂.gens := hm.gens
  have e2 : d = s₂.drawn := hm.drawn
  have e3 : os = s₂.os := hm.os
  subst e
  subst e1 e2 e3
  refine h hp' tk tot' na' (fun x o ex => hm.heap x o (fun hx => ?_) (Heap.get?_push_of_some _ (hk _ _ ex))) (by simpa using hq) (fun z => h0 (by simpa using z)) fun z => ?_
  · rcases List.mem_cons.mp hx with hx | hx
    · exact (hlt ex).2 hx
    · exact (hlt ex).1 hx
  · exact Nat.le_of_lt (Nat.lt_trans hsz (h1 (by simpa using z)))
end
end Lx
set_option Elab.async false
set_option linter.all false
set_option maxRecDepth 100000
set_option maxHeartbeats 4000000
/-! Lx10: sum of lists, isinstance, is of bools, a, b = x, y, method calls by name, Fk. -/
namespace Lx
open PySem PySem.Spec L2 PyProof.Rows
def rSumL (K : PySem.W.Frag) : List V → Hp → VK → Prop := fun xs H Q => ∃ (a p : Addr) (ws : List (Addr × List V)) (acc : List V), xs = [.ref a, .ref p] ∧ SqL K H a (ws.map fun w => V.ref w.1) ∧ (∀ w ∈ ws, H w.1 = some (.lst w.2)) ∧ H p = some (.lst acc) ∧
  (acc ++ ws.flatMap (·.2)).length ≤ sizeLine ∧ (ws = [] → Q (.ref p) H) ∧ (ws ≠ [] → ∀ q, H q = none → Q (.ref q) (upd H q (.lst (acc ++ ws.flatMap (·.2)))))
theorem Vals.get2 : ∀ {vs : List V} {us : List Value}, Vals vs us → ∀ (i : Nat) (u : Value), us[i]? = some u → ∃ v, vs[i]? = some v ∧ RelV v u
  | _, _, .nil, i, u, h => by simp at h
  | _, _, .cons a r, 0, u, h => by simp at h; subst h; exact ⟨_, rfl, a⟩
  | _, _, .cons a r, i + 1, u, h => by
    obtain ⟨v, h1, h2⟩ := Vals.get2 r i u (by simpa using h)
    exact ⟨v, by simpa using h1, h2⟩
theorem vals_cat {ws : List (Addr × List V)} {its : Nat → List Value} (h : ∀ (j : Nat) (w : Addr × List V), ws[j]? = some w → Vals w.2 (its j)) : ∀ (k i : Nat), i + k = ws.length → Vals ((ws.drop i).flatMap (·.2)) (catA its i k)
  | 0, i, e => by
    rw [List.drop_eq_nil_of_le (by omega)]
    exact .nil
  | k + 1, i, e => by
    have hi : i < ws.length := by omega
    rw [List.drop_eq_getElem_cons hi, List.flatMap_cons]
    exact (h i _ (List.getElem?_eq_getElem hi)).append (vals_cat h k (i + 1) (by omega))
section
variable {X : Cx} {K : PySem.W.Frag}
theorem call_sumL (hc : X.calm = true) : CallR X (.builtin "sum") (rSumL X.K) := by
  intro pins s σ H xs us Q I r h
  obtain ⟨a, p, ws, acc, rfl, hS, hw, hp, hz, q0, q1⟩ := h
  obtain ⟨u1, u2, rfl, r1, r2⟩ := vals2 r
  cases r1; cases r2
  obtain ⟨its0, rv, pl, hz0⟩ := I.list hS
  obtain ⟨_, ai, an, ra, _, hpo⟩ := I.lstM hp
  have sk : ∀ j : Nat, ∃ x : List Value × Nat, ∀ w, ws[j]? = some w → Vals w.2 x.1 ∧ s.heap.get? w.1 = some { cls := .type "list", data := .seq x.1.toArray x.2 } := fun j => by
    cases e : ws[j]? with
    | none => exact ⟨([], 0), fun w z => by cases z⟩
    | some w =>
      obtain ⟨_, i1, n1, v1, _, g1⟩ := I.lstM (hw w (List.mem_of_getElem? e))
      exact ⟨(i1, n1), fun w2 z => by cases z; exact ⟨v1, g1⟩⟩
  obtain ⟨f, hf⟩ := Classical.skolem.mp sk
  have hl0 : its0.length = ws.length := by rw [← rv.length, List.length_map]
  have cat := vals_cat (ws := ws) (its := fun j => (f j).1) (fun j w e => (hf j w e).1) ws.length 0 (by simp)
  rw [List.drop_zero] at cat
  refine call_sum_lists (its := fun j => (f j).1) (b := fun j => (ws[j]?.map (·.1)).getD 0) (nn := fun j => (f j).2) (I.ok.hd hc) pl.isList hpo (fun i v hv => ?_) (fun j hj => ?_) ?_ (fun h' tk q nq hk hq h0 h1 => ?_)
  · obtain ⟨v2, e1, e2⟩ := Vals.get2 rv i v hv
    rw [List.getElem?_map] at e1
    cases e : ws[i]? with
    | none => rw [e] at e1; cases e1
    | some w => rw [e] at e1; cases e1; rw [show v = Value.ref w.1 from e2]; rfl
  · have hj2 : j < ws.length := by omega
    have e := List.getElem?_eq_getElem hj2
    simp only [e, Option.map_some, Option.getD_some]
    exact (hf j _ e).2
  · rw [hl0, ← ra.length, ← cat.length, ← List.length_append]; exact hz
  · rw [hl0] at hq h0 h1
    by_cases hws : ws = []
    · subst hws
      rw [h0 rfl]
      exact ⟨.ref p, H, I.kept hk, rfl, q0 rfl⟩
    · have hsz := h1 (by intro z; exact hws (List.eq_nil_of_length_eq_zero z))
      exact ⟨.ref q, _, I.laid (t' := tk) (o := .lst (acc ++ ws.flatMap (·.2))) hk hsz ⟨hz, _, nq, ra.append cat, hq⟩, rfl, q1 hws q (I.hok.fresh hsz)⟩
end
def lstsD : List D → Option (List (List D))
  | [] => some []
  | .lst xs :: r => (lstsD r).map (xs :: ·)
  | _ => none
@[reducible] def sumD : List D → W D
  | [.lst xs, .lst acc] => (match lstsD xs with
    | some yss => W.need ((acc ++ yss.flatten).length ≤ sizeLine) (W.ret (.lst (acc ++ yss.flatten)))
    | none => W.stuck)
  | _ => W.stuck
section
variable {K : PySem.W.Frag} {pn : Addr} {F H : Hp}
theorem lsts_rep : ∀ {vs : List V} {ds : List D} {yss : List (List D)}, RepL K pn F vs ds → lstsD ds = some yss → ∃ ws : List (Addr × List V), vs = ws.map (fun w => V.ref w.1) ∧ (∀ w ∈ ws, F w.1 = some (.lst w.2)) ∧ RepL K pn F (ws.flatMap (·.2)) yss.flatten
  | _, _, _, .nil, h => by cases h; exact ⟨[], rfl, (fun w z => nomatch z), .nil⟩
  | _, _, _, .cons (d := d) (ds := ds) a r, h => by
    cases a with
    | @lst b vs xs hf rf =>
      unfold lstsD at h
      cases e : lstsD ds with
      | none => rw [e] at h; cases h
      | some yss =>
        rw [e] at h; cases h
        obtain ⟨ws, h1, h2, h3⟩ := lsts_rep r e
        refine ⟨(b, vs) :: ws, by rw [h1]; rfl, fun w hw => ?_, by rw [List.flatMap_cons, List.flatten_cons]; exact rf.app h3⟩
        rcases List.mem_cons.mp hw with rfl | hw
        · exact hf
        · exact h2 w hw
    | _ => cases h
theorem lo_sum : LOn K (rSumL K) sumD := fun pn F H n vs xs Q o r h => by
  unfold sumD at h
  split at h
  · rename_i xs acc
    obtain ⟨v, w, rfl, rv, rw_⟩ := r.two
    cases rv with
    | @lst a vs ds hf rf =>
      cases rw_ with
      | @lst p us es hg rg =>
        cases e : lstsD xs with
        | none => rw [e] at h; exact h.elim
        | some yss =>
          rw [e] at h
          obtain ⟨ws, h1, h2, h3⟩ := lsts_rep rf e
          have hall := rg.app h3
          refine ⟨a, p, ws, us, rfl, by rw [← h1]; exact SqL.of (o.fro _ _ hf), fun w hw => o.fro _ _ (h2 w hw), o.fro _ _ hg, by rw [hall.len]; exact h.1, fun hws => ?_, fun hws q hq => ?_⟩
          · subst hws
            have e0 : yss.flatten = [] := List.eq_nil_of_length_eq_zero (by rw [← h3.len]; rfl)
            have h2 := h.2
            rw [e0, List.append_nil] at h2
            exact h2 _ F H (Go.refl ..) o (.lst hg rg)
          · obtain ⟨o2, g2⟩ := o.lay (o := .lst (us ++ ws.flatMap (·.2))) hq
            exact h.2 (.ref q) _ _ g2 o2 (.lst upd_same (hall.up g2.sub))
  · exact h.elim
end

/-! ### isinstance -/
/-- what isinstance(x, c) tells, by the class of x: tb has the own classes -/
inductive Ky where
  | t (n : String) | c (x : Str)
deriving DecidableEq
def tyD : D → Option Ky
  | .non => some (.t "NoneType") | .bl _ => some (.t "bool") | .int _ => some (.t "int") | .str _ => some (.t "str")
  | .lst _ => some (.t "list") | .tup _ => some (.t "tuple") | .obj c _ => some (.c c)
  | _ => none
def vTy (K : PySem.W.Frag) : Ky → Value
  | .t s => .type s
  | .c c => .ref (He.ga K c)
/-- an answer: of type t, asked for c -/
abbrev IsTb := List (Ky × Bool)
structure OwnC (K : PySem.W.Frag) (c : Str) : Prop where
  ok : ∀ (H : Hp) (a dx : Addr) (fs : List (Str × V)), H a = some (.ins (He.ga K c) dx fs) → TyX K H (.ref a) (.ref (He.ga K c))
@[reducible] def isiD (tb : IsTb) (x : D) : W D := match tyD x with
  | some t => (match tb.lookup t with | some b => W.ret (.bl b) | none => W.stuck)
  | none => W.stuck
def tIsi (K : PySem.W.Frag) (c : V) (ta : TE) : TE := fun σ H Q => ta σ H fun x H1 => rIsi K [x, c] H1 Q
/-- the table's answers are right -/
inductive IsOk (K : PySem.W.Frag) (u : Value) : IsTb → Prop
  | nil : IsOk K u []
  | cons {t : Ky} {b : Bool} {tb : IsTb} : PySem.W.kitOne K (vTy K t) u = some b → (∀ c, t = .c c → OwnC K c) → IsOk K u tb → IsOk K u ((t, b) :: tb)
theorem IsOk.get {K : PySem.W.Frag} {u : Value} : ∀ {tb : IsTb} {t : Ky} {b : Bool}, IsOk K u tb → tb.lookup t = some b → PySem.W.kitOne K (vTy K t) u = some b ∧ ∀ c, t = .c c → OwnC K c
  | _, _, _, .nil, h => by cases h
  | _, t, b, .cons (t := t2) h1 h2 r, h => by
    rw [List.lookup_cons] at h
    cases q : (t == t2) with
    | true => rw [q] at h; cases h; rw [eq_of_beq q]; exact ⟨h1, h2⟩
    | false => rw [q] at h; exact r.get h
section
variable {X : Cx} {K : PySem.W.Frag}
theorem le_isi {c : V} {u : Value} {tb : IsTb} {ta : TE} {fa : List Sl → W D} (hc : ClsV c u) (ht : IsOk K u tb) (ha : LE K ta fa) : LE K (tCB (rIsi K) (tCons ta (tCons (tC c) tNil))) (dOp1 (isiD tb) fa) := fun pn H0 F H n σ δ Q o s h => by
  refine ha pn H0 F H n σ δ _ o s ((fa δ).mono (fun m x q => ?_) (fun _ _ z => z) h)
  intro v F1 H1 g1 o1 r1
  unfold isiD at q
  cases e : tyD x with
  | none => rw [e] at q; exact q.elim
  | some t =>
    rw [e] at q
    dsimp only at q
    cases e2 : tb.lookup t with
    | none => rw [e2] at q; exact q.elim
    | some b =>
      rw [e2] at q
      obtain ⟨k1, k2⟩ := ht.get e2
      refine ⟨v, c, vTy K t, u, b, rfl, hc, ?_, k1, q _ F1 H1 g1 o1 (.bl _)⟩
      cases r1 with
      | non => cases e; exact .base .non
      | bl b => cases e; exact .base (.bl b)
      | int i => cases e; exact .base (.int i)
      | str x => cases e; exact .base (.str x)
      | lst a r => cases e; exact .base (.lst (o1.fro _ _ a))
      | tup a r =>
        cases e
        rcases o1.fro.sqT a with (z | ⟨ob, z⟩) | ⟨ob, its, n', z, zc, _⟩
        · exact .base (.tup z)
        · exact .fTuple z
        · exact .kTuple z zc
      | obj a _ _ _ => cases e; exact (k2 _ rfl).ok _ _ _ _ (o1.fro _ _ a)
      | pen => cases e
      | sct _ => cases e
      | adr _ => cases e
end
end Lx
set_option Elab.async false
set_option linter.all false
set_option maxRecDepth 100000
set_option maxHeartbeats 4000000
/-! Lx11: the pen: how it is made, how it draws. -/
namespace Lx
open PySem PySem.Spec L2 PyProof.Rows
/-- the expression's value, the heap as it was -/
def Ev (te : TE) (σ : L2.St) (H : Hp) (v : V) : Prop := ∀ Q : VK, Q v H → te σ H Q
abbrev rGt1 : R2 := rI0 fun i j => .bl (decide (j < i))
abbrev rLt1 : R2 := rI0 fun i j => .bl (decide (i < j))
abbrev rGe1 : R2 := rI0 fun i j => .bl (decide (j ≤ i))
abbrev rMod1 : R2 := rI (fun _ j => 0 < j) fun i j => .int (i % j)
abbrev rFd1 : R2 := rI CDiv fun i j => .int (i / j)
abbrev rAdd1 : R2 := rI0 fun i j => .int (i + j)
abbrev rSub1 : R2 := rI0 fun i j => .int (i - j)
abbrev rMul1 : R2 := rI CMul fun i j => .int (i * j)
abbrev rPow1 : R2 := rI CPow fun i j => .int (i ^ j.toNat)
abbrev rInt1 : List V → Hp → VK → Prop := fun xs H Q => (∃ i, xs = [.int i] ∧ Q (.int i) H) ∨ ∃ k, xs = [.bl k] ∧ Q (.int (if k then 1 else 0)) H
abbrev rAbs1 : List V → Hp → VK → Prop := fun xs H Q => ∃ i, xs = [.int i] ∧ Q (.int (if i < 0 then -i else i)) H
abbrev tI1 (te : TE) : TE := tCB rInt1 (tCons te tNil)
abbrev tA1 (te : TE) : TE := tCB rAbs1 (tCons te tNil)
abbrev tLn (K : PySem.W.Frag) (te : TE) : TE := tCB (rLen K) (tCons te tNil)
abbrev kk (x : Str) : TE := tC (.str x)
section
variable {K : PySem.W.Frag} {σ : L2.St} {H : Hp} {ta tb : TE}
theorem ev_var {i : Nat} {v : V} (h : σ[i]? = some (some v)) : Ev (tVar i) σ H v := fun Q q => ⟨v, h, q⟩
theorem ev_c {v : V} : Ev (tC v) σ H v := fun Q q => q
theorem ev_op {r : R2} {x y z : V} (ha : Ev ta σ H x) (hb : Ev tb σ H y) (hr : ∀ Q : VK, Q z H → r x y H Q) : Ev (tOp r ta tb) σ H z := fun Q q => ha _ (hb _ (hr Q q))
theorem ev_i0 {f : Int → Int → V} {i j : Int} (ha : Ev ta σ H (.int i)) (hb : Ev tb σ H (.int j)) : Ev (tOp (rI0 f) ta tb) σ H (f i j) := ev_op ha hb fun Q q => ⟨i, j, rfl, rfl, q⟩
theorem ev_i {c : Int → Int → Prop} {f : Int → Int → V} {i j : Int} (ha : Ev ta σ H (.int i)) (hb : Ev tb σ H (.int j)) (hc : c i j) : Ev (tOp (rI c f) ta tb) σ H (f i j) := ev_op ha hb fun Q q => ⟨i, j, rfl, rfl, hc, q⟩
theorem ev_k (i : Int) : Ev (tC (.int i)) σ H (.int i) := fun Q q => q
theorem ev_v (k : Nat) (i : Int) (h : σ[k]? = some (some (.int i))) : Ev (tVar k) σ H (.int i) := ev_var h
theorem ev_add {i j : Int} (ha : Ev ta σ H (.int i)) (hb : Ev tb σ H (.int j)) : Ev (tOp rAdd1 ta tb) σ H (.int (i + j)) := ev_i0 ha hb
theorem ev_sub {i j : Int} (ha : Ev ta σ H (.int i)) (hb : Ev tb σ H (.int j)) : Ev (tOp rSub1 ta tb) σ H (.int (i - j)) := ev_i0 ha hb
theorem ev_mul {i j : Int} (ha : Ev ta σ H (.int i)) (hb : Ev tb σ H (.int j)) (h : CMul i j) : Ev (tOp rMul1 ta tb) σ H (.int (i * j)) := ev_i ha hb h
theorem ev_mod {i j : Int} (ha : Ev ta σ H (.int i)) (hb : Ev tb σ H (.int j)) (h : 0 < j) : Ev (tOp rMod1 ta tb) σ H (.int (i % j)) := ev_i ha hb h
theorem ev_fd {i j : Int} (ha : Ev ta σ H (.int i)) (hb : Ev tb σ H (.int j)) (h : CDiv i j) : Ev (tOp rFd1 ta tb) σ H (.int (i / j)) := ev_i ha hb h
theorem ev_int {i : Int} (ha : Ev ta σ H (.int i)) : Ev (tI1 ta) σ H (.int i) := fun Q q => ha _ (.inl ⟨i, rfl, q⟩)
theorem ev_abs {i : Int} (ha : Ev ta σ H (.int i)) : Ev (tA1 ta) σ H (.int (if i < 0 then -i else i)) := fun Q q => ha _ ⟨i, rfl, q⟩
theorem ev_len {a : Addr} {xs : List V} (ha : Ev ta σ H (.ref a)) (hs : SqL K H a xs) : Ev (tLn K ta) σ H (.int xs.length) := fun Q q => ha _ ⟨_, _, rfl, Or.inl ⟨_, hs, rfl⟩, q⟩
theorem ev_ix {a : Addr} {xs : List V} {i : Int} {v : V} (ha : Ev ta σ H (.ref a)) (hb : Ev tb σ H (.int i)) (hs : SqL K H a xs) (hv : atI xs i = some v) : Ev (tOp (rIx K) ta tb) σ H v := ev_op ha hb fun Q q => .inl ⟨a, xs, i, v, rfl, rfl, hs, hv, q⟩
theorem ev_get {a : Addr} {kvs : List (Key × V)} {x : Str} {v : V} (ha : Ev ta σ H (.ref a)) (hs : H a = some (.dK kvs)) (hv : valV kvs (Sum.inr x) = some v) : Ev (tDGet ta (kk x)) σ H v := fun Q q => ha _ ⟨a, v, rfl, by
  have := DGet.k (k := Sum.inr x) hs
  rw [hv] at this
  exact this, q⟩
end
/-! ### the draw -/
section
variable (K : PySem.W.Frag)
abbrev pLeft : TE := tDGet (tVar 0) (kk "left")
abbrev pTurn : TE := tDGet (tVar 0) (kk "turn")
abbrev pCells : TE := tDGet (tVar 0) (kk "cells")
abbrev p18 : TE := tOp rPow1 (tC (.int 10)) (tC (.int 18))
abbrev pAb : TE := tOp rSub1 (tA1 (tVar 4)) p18
def d1 : TS := tIfS (tTest (tOp rGt1 pLeft (tC (.int 0)))) (tSeq (tAsg (tOp rMod1 (tI1 pLeft) (tVar 1)) (gName 2)) (tSeq (sDPut (tVar 0) (kk "left") (tOp rFd1 pLeft (tVar 1))) (tRet (tVar 2)))) tNext
def d5 : TS := tIfS (tTest (tOp (rNeU K) pCells (tLst tNil))) (tAsg (tOp (rIx K) pCells (tOp rMod1 (tI1 (tVar 3)) (tLn K pCells))) (gName 4)) tNext
def d6 : TS := tIfS (tAnd (tTest (tOp rLt1 (tVar 3) (tLn K pCells))) (tTest (tOp rGe1 (tA1 (tVar 4)) p18))) (tSeq (sDPut (tVar 0) (kk "left") (tOp rFd1 pAb (tVar 1))) (tRet (tOp rMod1 pAb (tVar 1)))) tNext
def d7 : TS := tAsg (tLst (tCons (tC (.int 2147483629)) (tCons (tC (.int 2147483647)) (tCons (tC (.int 2147483587)) (tCons (tC (.int 2147483563)) (tCons (tC (.int 2147483579)) tNil)))))) (gName 5)
def d8 : TS := tAsg (tOp (rIx K) (tVar 5) (tOp rMod1 (tI1 (tVar 3)) (tC (.int 5)))) (gName 6)
def d9 : TS := tAsg (tOp rMod1 (tI1 (tOp rAdd1 (tOp rAdd1 (tOp rMul1 (tOp rMod1 (tI1 (tVar 4)) (tVar 6)) (tC (.int 39373))) (tOp rMul1 (tVar 3) (tOp rAdd1 (tOp rMul1 (tC (.int 30011)) (tVar 3)) (tC (.int 8117))))) (tC (.int 23)))) (tVar 6)) (gName 7)
def d10 : TS := tAsg (tOp rMod1 (tI1 (tOp rMul1 (tVar 7) (tOp rAdd1 (tVar 7) (tC (.int 69621))))) (tOp (rIx K) (tVar 5) (tOp rMod1 (tI1 (tOp rAdd1 (tVar 3) (tC (.int 2)))) (tC (.int 5))))) (gName 7)
def d11 : TS := tRet (tOp rMod1 (tI1 (tOp rFd1 (tOp rMod1 (tI1 (tOp rAdd1 (tOp rAdd1 (tOp rMul1 (tVar 7) (tVar 7)) (tOp rMul1 (tC (.int 16807)) (tVar 7))) (tVar 3))) (tC (.int 2147483549))) (tC (.int 64)))) (tVar 1))
def t_draw : TS := tSeq d1 (tSeq (tAsg pTurn (gName 3)) (tSeq (sDPut (tVar 0) (kk "turn") (tOp rAdd1 (tVar 3) (tC (.int 1)))) (tSeq (tAsg (tOp rAdd1 (tOp rMul1 (tC (.int 43)) (tVar 3)) (tC (.int 19))) (gName 4))
  (tSeq (d5 K) (tSeq (d6 K) (tSeq d7 (tSeq (d8 K) (tSeq d9 (tSeq (d10 K) d11)))))))))
end
@[reducible] def drawD : List D → W D
  | [.pen, .int m] => W.need (0 < m ∧ m < 1073741824) (W.any 1 fun d => ∃ i : Int, d = .int i ∧ 0 ≤ i ∧ i < m)
  | _ => W.stuck
section
variable {K : PySem.W.Frag}
theorem dput {td tv : TE} {σ : L2.St} {H : Hp} {D : Ends} {a : Addr} {kvs : List (Key × V)} {x : Str} {v : V} (hd : ∀ H' : Hp, Ev td σ H' (.ref a)) (hv : Ev tv σ H v) (e : H a = some (.dK kvs)) (hl : kvs.length < sizeLine) (q : D.nx σ (upd H a (.dK (putK kvs (Sum.inr x) v)))) : sDPut td (kk x) tv D σ H :=
  hv _ (hd H _ ⟨a, _, rfl, DPut.k (k := Sum.inr x) e hl, q⟩)
theorem pk_l {l : Addr} {t lf x : Int} : putK (penKvs l t lf) (Sum.inr ("left" : Str)) (.int x) = penKvs l t x := rfl
theorem pk_t {l : Addr} {t lf x : Int} : putK (penKvs l t lf) (Sum.inr ("turn" : Str)) (.int x) = penKvs l x lf := rfl
theorem pv_l {l : Addr} {t lf : Int} : valV (penKvs l t lf) (Sum.inr ("left" : Str)) = some (.int lf) := rfl
theorem pv_t {l : Addr} {t lf : Int} : valV (penKvs l t lf) (Sum.inr ("turn" : Str)) = some (.int t) := rfl
theorem pv_c {l : Addr} {t lf : Int} : valV (penKvs l t lf) (Sum.inr ("cells" : Str)) = some (.ref l) := rfl
theorem pk_len {l : Addr} {t lf : Int} : (penKvs l t lf).length < sizeLine := by rw [sizeLine_eq]; show 3 < 16777216; decide
theorem atI_in {α : Type} {xs : List α} {i : Int} (h0 : 0 ≤ i) (h1 : i < xs.length) : ∃ v, atI xs i = some v ∧ xs[i.toNat]? = some v := by
  have hl : i.toNat < xs.length := by omega
  have e : ixN xs.length i = some i.toNat := by
    unfold ixN
    rw [if_pos h0, if_pos h1]
  refine ⟨xs[i.toNat], ?_, List.getElem?_eq_getElem hl⟩
  unfold atI
  rw [e]
  exact List.getElem?_eq_getElem hl
theorem itD {c : Prop} [Decidable c] {a b : Prop} (h : c) (x : a) : (if decide c = true then a else b) := by rw [if_pos (decide_eq_true h)]; exact x
theorem itN {c : Prop} [Decidable c] {a b : Prop} (h : ¬ c) (x : b) : (if decide c = true then a else b) := by rw [if_neg (by simpa using h)]; exact x
theorem abs_nn (i : Int) : 0 ≤ (if i < 0 then -i else i) := by split <;> omega
theorem ite1 {c : Bool} {a b : Prop} (h : c = true) (x : a) : (if c = true then a else b) := by rw [if_pos h]; exact x
theorem shaped_ints (cs : List Int) : SeqAt.shaped (.list (cs.map .int)) = true := by
  have h1 : ∀ cs : List Int, PyData.canLayAll0 (cs.map .int) = true := fun cs => by
    induction cs with
    | nil => rfl
    | cons c r ih => exact ih
  have h2 : (PyData.list (cs.map .int)).depth ≤ 64 := by
    show PyData.depthAll (cs.map .int) + 1 ≤ 64
    rw [depth_ints]
    decide
  exact Bool.and_eq_true_iff.mpr ⟨h1 cs, decide_eq_true h2⟩
theorem ne_nil (c : Int) (r : List Int) : (!PyData.eqv (.list ((c :: r).map .int)) (.list [])) = true := rfl
/-- behind the draw: all stands but the pen -/
theorem draw_pure {vs : List V} {H : Hp} {Q : VK} {E : XK} (h : Pr K 2 drawD vs H Q E) : t_draw K { nx := fun _ H' => Q .non H', rt := Q } (L2.start ["_law_pen_here", "_law_span", "_law_digit", "_law_turn", "_law_cell", "_law_primes", "_law_prime", "_law_drawn"] vs) H := by
  obtain ⟨pn, F, ds, n, ok, r, dl, q⟩ := h
  match ds, r, q with
  | [.pen, .int m], r, q1 =>
    obtain ⟨v0, v1, rfl, r0, r1⟩ := r.two
    cases r1
    obtain ⟨⟨m0, m1⟩, k, rfl, q2⟩ := q1
    obtain rfl : v0 = .ref pn := by cases r0; rfl
    obtain ⟨l, cs, t, lf, hp, hl, hcs, t0, tn, lf0⟩ := ok.pen
    have fin : ∀ (H' : Hp) (t' lf' i : Int), (∀ a o, a ≠ pn → H a = some o → H' a = some o) → H' pn = some (.dK (penKvs l t' lf')) → 0 ≤ t' → t' ≤ t + 1 → 0 ≤ lf' → 0 ≤ i → i < m → Q (.int i) H' := fun H' t' lf' i hk hp' ht0 ht1 hl0 i0 i1 =>
      q2 (.int i) ⟨i, rfl, i0, i1⟩ (.int i) F H' ⟨hk, Le.refl F, fun a o e z => by rw [z] at e; cases e⟩ ⟨fun a o e => hk a o (fun z => by rw [z, ok.fpn] at e; cases e) (ok.fro a o e), ok.fpn, l, cs, t', lf', hp', hl, hcs, ht0, by have : ((k + 1 : Nat) : Int) = k + 1 := rfl; omega, hl0⟩ (.int i)
    let σ0 : L2.St := [some (.ref pn), some (.int m), none, none, none, none, none, none]
    have g0 : ∀ σ (H' : Hp), σ[0]? = some (some (V.ref pn)) → Ev (tVar 0) σ H' (.ref pn) := fun σ H' e => ev_var e
    show t_draw K _ σ0 H
    have evl : Ev pLeft σ0 H (.int lf) := ev_get (g0 σ0 H rfl) hp pv_l
    have ev1 : ∀ H', Ev (tVar 1) σ0 H' (.int m) := fun H' => ev_var rfl
    unfold t_draw d1
    refine (ev_i0 evl ev_c) _ ⟨decide (0 < lf), rfl, ?_⟩
    by_cases hlf : 0 < lf
    · refine itD hlf ?_
      refine (ev_mod (ev_int evl) (ev1 H) m0) _ ?_
      have evl2 : Ev pLeft (σ0.set 2 (some (.int (lf % m)))) H (.int lf) := ev_get (g0 _ H rfl) hp pv_l
      refine dput (fun H' => g0 _ H' rfl) (ev_fd evl2 (ev_v 1 m rfl) ⟨m0, m1⟩) hp pk_len ?_
      rw [pk_l]
      refine ⟨_, rfl, fin _ t (lf / m) (lf % m) (fun a o na e => by rw [upd_ne na]; exact e) upd_same t0 (by omega) (Int.ediv_nonneg lf0 (by omega)) (Int.emod_nonneg _ (by omega)) (Int.emod_lt_of_pos _ m0)⟩
    · refine itN hlf ?_
      refine (ev_get (g0 σ0 H rfl) hp pv_t : Ev pTurn σ0 H (.int t)) _ ?_
      let σ1 : L2.St := [some (.ref pn), some (.int m), none, some (.int t), none, none, none, none]
      unfold gName
      refine dput (fun H' => g0 _ H' rfl) (ev_add (ev_v 3 t rfl) (ev_k 1)) hp pk_len ?_
      rw [pk_t]
      generalize hH1 : upd H pn (.dK (penKvs l (t + 1) lf)) = H1
      have hp1 : H1 pn = some (.dK (penKvs l (t + 1) lf)) := by rw [← hH1]; exact upd_same
      have k1 : ∀ a o, a ≠ pn → H a = some o → H1 a = some o := fun a o na e => by rw [← hH1, upd_ne na]; exact e
      have lc : ∀ H' : Hp, (∀ a o, a ≠ pn → H a = some o → H' a = some o) → SqL K H' l (cs.map V.int) := fun H' hk => Le.sqL (fun a o e => hk a o (fun z => by rw [z, ok.fpn] at e; cases e) (ok.fro a o e)) hl
      refine (ev_add (ev_mul (ev_k 43) (ev_v 3 t rfl) (.inl ⟨by decide, by decide⟩)) (ev_k 19)) _ ?_
      have tb : t < 2 ^ 60 := by have : ((k + 1 : Nat) : Int) = k + 1 := rfl; omega
      -- the rest, once the cell is there
      have rest : ∀ (c : Int) (H2 : Hp), H2 pn = some (.dK (penKvs l (t + 1) lf)) → (∀ a o, a ≠ pn → H a = some o → H2 a = some o) →
          tSeq (d6 K) (tSeq d7 (tSeq (d8 K) (tSeq d9 (tSeq (d10 K) d11)))) { nx := fun _ H' => Q .non H', rt := Q } [some (.ref pn), some (.int m), none, some (.int t), some (.int c), none, none, none] H2 := by
        intro c H2 hp2 k2
        let σ2 : L2.St := [some (.ref pn), some (.int m), none, some (.int t), some (.int c), none, none, none]
        show tSeq (d6 K) _ _ σ2 H2
        have evc : Ev pCells σ2 H2 (.ref l) := ev_get (g0 _ H2 rfl) hp2 pv_c
        have eva : Ev (tA1 (tVar 4)) σ2 H2 (.int (if c < 0 then -c else c)) := ev_abs (ev_var rfl)
        have e18 : Ev p18 σ2 H2 (.int (10 ^ 18)) := ev_i (c := CPow) (f := fun i j => .int (i ^ j.toNat)) (i := 10) (j := 18) ev_c ev_c ⟨by decide, by decide, by decide⟩
        have evab : Ev pAb σ2 H2 (.int ((if c < 0 then -c else c) - 10 ^ 18)) := ev_i0 eva e18
        unfold d6
        -- what comes when the cell isn't wide
        have tail : tSeq d7 (tSeq (d8 K) (tSeq d9 (tSeq (d10 K) d11))) { nx := fun _ H' => Q .non H', rt := Q } σ2 H2 := by
          unfold d7
          refine ⟨by rw [sizeLine_eq]; decide, fun p hpf => ?_⟩
          have pne : p ≠ pn := fun z => by rw [z, hp2] at hpf; cases hpf
          let ps : List V := [.int 2147483629, .int 2147483647, .int 2147483587, .int 2147483563, .int 2147483579]
          have hps : upd H2 p (.lst ps) p = some (.lst ps) := upd_same
          have hp3 : upd H2 p (.lst ps) pn = some (.dK (penKvs l (t + 1) lf)) := by rw [upd_ne pne.symm]; exact hp2
          have k3 : ∀ a o, a ≠ pn → H a = some o → upd H2 p (.lst ps) a = some o := fun a o na e => by
            have := k2 a o na e
            rw [upd_ne (ne_of_none this hpf)]; exact this
          generalize upd H2 p (.lst ps) = H3 at hps hp3 k3
          have prm : ∀ i : Int, 0 ≤ i → i < 5 → ∃ pr : Int, atI ps i = some (.int pr) ∧ 0 < pr ∧ pr < 2 ^ 31 := fun i h0 h5 => by
            have : i = 0 ∨ i = 1 ∨ i = 2 ∨ i = 3 ∨ i = 4 := by omega
            rcases this with rfl | rfl | rfl | rfl | rfl
            · exact ⟨2147483629, rfl, by decide, by decide⟩
            · exact ⟨2147483647, rfl, by decide, by decide⟩
            · exact ⟨2147483587, rfl, by decide, by decide⟩
            · exact ⟨2147483563, rfl, by decide, by decide⟩
            · exact ⟨2147483579, rfl, by decide, by decide⟩
          obtain ⟨pr, hpr, pr0, pr1⟩ := prm (t % 5) (Int.emod_nonneg _ (by decide)) (Int.emod_lt_of_pos _ (by decide))
          obtain ⟨pr2, hpr2, pr20, pr21⟩ := prm ((t + 2) % 5) (Int.emod_nonneg _ (by decide)) (Int.emod_lt_of_pos _ (by decide))
          unfold d8
          refine (ev_ix (ev_var (v := .ref p) rfl) (ev_mod (ev_int (ev_v 3 t rfl)) (ev_k 5) (by decide)) (SqL.of hps) hpr) _ ?_
          unfold d9
          have cm : 0 ≤ c % pr ∧ c % pr < pr := ⟨Int.emod_nonneg _ (by omega), Int.emod_lt_of_pos _ pr0⟩
          refine (ev_mod (ev_int (ev_add (ev_add (ev_mul (ev_mod (ev_int (ev_v 4 c rfl)) (ev_v 6 pr rfl) pr0) (ev_k 39373) (.inr ⟨by decide, by decide⟩)) (ev_mul (ev_v 3 t rfl) (ev_add (ev_mul (ev_k 30011) (ev_v 3 t rfl) (.inl ⟨by decide, by decide⟩)) (ev_k 8117)) (.inl ⟨by omega, by omega⟩))) (ev_k 23))) (ev_v 6 pr rfl) pr0) _ ?_
          generalize hd : (c % pr * 39373 + t * (30011 * t + 8117) + 23) % pr = dr
          have dr0 : 0 ≤ dr ∧ dr < pr := by rw [← hd]; exact ⟨Int.emod_nonneg _ (by omega), Int.emod_lt_of_pos _ pr0⟩
          unfold d10
          refine (ev_mod (ev_int (ev_mul (ev_v 7 dr rfl) (ev_add (ev_v 7 dr rfl) (ev_k 69621)) (.inl ⟨by omega, by omega⟩))) (ev_ix (ev_var (v := .ref p) rfl) (ev_mod (ev_int (ev_add (ev_v 3 t rfl) (ev_k 2))) (ev_k 5) (by decide)) (SqL.of hps) hpr2) pr20) _ ?_
          generalize hd2 : (dr * (dr + 69621)) % pr2 = dq
          have dq0 : 0 ≤ dq ∧ dq < pr2 := by rw [← hd2]; exact ⟨Int.emod_nonneg _ (by omega), Int.emod_lt_of_pos _ pr20⟩
          unfold d11
          refine (ev_mod (ev_int (ev_fd (ev_mod (ev_int (ev_add (ev_add (ev_mul (ev_v 7 dq rfl) (ev_v 7 dq rfl) (.inl ⟨by omega, by omega⟩)) (ev_mul (ev_k 16807) (ev_v 7 dq rfl) (.inl ⟨by decide, by decide⟩))) (ev_v 3 t rfl))) (ev_k 2147483549) (by decide)) (ev_k 64) ⟨by decide, by decide⟩)) (ev_v 1 m rfl) m0) _ ?_
          exact fin H3 (t + 1) lf _ k3 hp3 (by omega) (by omega) lf0 (Int.emod_nonneg _ (by omega)) (Int.emod_lt_of_pos _ m0)
        refine (ev_i0 (ev_var (v := .int t) rfl) (ev_len evc (lc H2 k2))) _ ⟨_, rfl, ?_⟩
        by_cases c1 : t < ((cs.map V.int).length : Int)
        · refine itD c1 ?_
          refine (ev_i0 eva e18) _ ⟨_, rfl, ?_⟩
          by_cases c2 : (10 : Int) ^ 18 ≤ (if c < 0 then -c else c)
          · refine itD c2 ?_
            refine dput (fun H' => g0 _ H' rfl) (ev_fd evab (ev_v 1 m rfl) ⟨m0, m1⟩) hp2 pk_len ?_
            rw [pk_l]
            have e18' : ∀ H', Ev p18 σ2 H' (.int (10 ^ 18)) := fun H' => ev_i (c := CPow) (f := fun i j => .int (i ^ j.toNat)) (i := 10) (j := 18) ev_c ev_c ⟨by decide, by decide, by decide⟩
            refine (ev_mod (ev_sub (ev_abs (ev_v 4 c rfl)) (e18' _)) (ev_v 1 m rfl) m0) _ ?_
            refine fin _ (t + 1) _ _ (fun a o na e => by rw [upd_ne na]; exact k2 a o na e) upd_same (by omega) (by omega) (Int.ediv_nonneg (by omega) (by omega)) (Int.emod_nonneg _ (by omega)) (Int.emod_lt_of_pos _ m0)
          · exact itN c2 tail
        · exact itN c1 (iteF tail)
      -- the cell
      let σ2 : L2.St := [some (.ref pn), some (.int m), none, some (.int t), some (.int (43 * t + 19)), none, none, none]
      show tSeq (d5 K) _ _ σ2 H1
      unfold d5
      have evc : Ev pCells σ2 H1 (.ref l) := ev_get (g0 _ H1 rfl) hp1 pv_c
      refine evc _ ⟨by rw [sizeLine_eq]; decide, fun p hpf => ?_⟩
      have pne : p ≠ pn := fun z => by rw [z, hp1] at hpf; cases hpf
      have hp2 : upd H1 p (.lst []) pn = some (.dK (penKvs l (t + 1) lf)) := by rw [upd_ne pne.symm]; exact hp1
      have hpp : upd H1 p (.lst []) p = some (.lst []) := upd_same
      have k2 : ∀ a o, a ≠ pn → H a = some o → upd H1 p (.lst []) a = some o := fun a o na e => by
        have := k1 a o na e
        rw [upd_ne (ne_of_none this hpf)]; exact this
      generalize upd H1 p (.lst []) = H2 at hp2 hpp k2
      refine .inr ⟨.list (cs.map .int), .list [], .lst (lc H2 k2) (dp_ints cs), .lst (SqL.of hpp) .nil, ?_, rfl, ⟨_, rfl, ?_⟩⟩
      · exact shaped_ints cs
      cases hcs0 : cs with
      | nil =>
        subst hcs0
        exact iteF (rest (43 * t + 19) H2 hp2 k2)
      | cons c0 cr =>
        refine ite1 (ne_nil c0 cr) ?_
        have hlen : (0 : Int) < ((cs.map V.int).length : Int) := by rw [hcs0]; simp
        have evc2 : Ev pCells σ2 H2 (.ref l) := ev_get (g0 _ H2 rfl) hp2 pv_c
        obtain ⟨v, hv, hv2⟩ := atI_in (xs := cs.map V.int) (i := t % ((cs.map V.int).length : Int)) (Int.emod_nonneg _ (by omega)) (Int.emod_lt_of_pos _ hlen)
        rw [List.getElem?_map] at hv2
        obtain ⟨c, _, rfl⟩ : ∃ c, cs[(t % ((cs.map V.int).length : Int)).toNat]? = some c ∧ v = .int c := by
          cases z : cs[(t % ((cs.map V.int).length : Int)).toNat]? with
          | none => rw [z] at hv2; cases hv2
          | some c => rw [z] at hv2; cases hv2; exact ⟨c, rfl, rfl⟩
        refine (ev_ix evc2 (ev_mod (ev_int (ev_v 3 t rfl)) (ev_len evc2 (lc H2 k2)) hlen) (lc H2 k2) hv) _ ?_
        exact rest c H2 hp2 k2
end
end Lx
set_option Elab.async false
set_option linter.all false
set_option maxRecDepth 100000
set_option maxHeartbeats 4000000
/-! Lx12: the head's Hook: defs by paths, facts of classes. -/
namespace Lx
open PySem PySem.Spec L2 PyProof.Rows He
/-- the property f of class x: the property object, its getter -/
def ppA (K : PySem.W.Frag) (x f : Str) : Addr := ma K (ga K x) f
def pgA (K : PySem.W.Frag) (x f : Str) : Addr := match PySem.W.recIn K (ppA K x f) "property" with
  | some (.ref g :: _) => g
  | _ => 0
/-- where a def stands -/
inductive Pth where
  | fn (x : Str) | me (c m : Str) | pr (c f : Str)
def Pth.a (K : PySem.W.Frag) : Pth → Addr
  | .fn x => ga K x
  | .me c m => ma K (ga K c) m
  | .pr c f => pgA K c f
inductive Fm where
  | he (f : Fa)
  /-- class x's method m is class y's -/
  | meth (x m y : Str)
  /-- class x's property f is class y's -/
  | prop (x f y : Str)
  /-- class x is made by class y's init -/
  | ini (x y : Str)
  /-- in an init of class d, for an object of class x, super().__init__ is class y's -/
  | sup (x d y : Str)
  | own (x : Str)
  | isi (t c : Ky) (b : Bool)
  | top
def eqB (a b : Option Bool) : Bool := decide (a = b)
def Fm.ok (K : PySem.W.Frag) : Fm → Bool
  | .he f => f.ok K
  | .meth x m y => eqO (PySem.W.findIn K (.ref (ga K x)) m) (some (some (.ref (ma K (ga K y) m)))) && (PySem.W.isFn K (.ref (ma K (ga K y) m)) && PySem.W.keepIn K (.ref (ma K (ga K y) m)))
  | .prop x f y => eqO (PySem.W.findIn K (.ref (ga K x)) f) (some (some (.ref (ppA K y f)))) && (eqO (PySem.W.specialIn K (.ref (ppA K y f)) "__get__") (some (some (.builtin "property.__get__"))) && (eqB (PySem.W.takesIn K (.ref (ppA K y f))) (some true) &&
      (match PySem.W.recIn K (ppA K y f) "property" with | some (.ref _ :: _) => true | _ => false)))
  | .ini x y => PySem.W.makesIn K (ga K x) && (eqO (PySem.W.findIn K (.ref (ga K x)) "__init__") (some (some (.ref (ma K (ga K y) "__init__")))) && (PySem.W.isFn K (.ref (ma K (ga K y) "__init__")) && PySem.W.keepIn K (.ref (ga K x))))
  | .sup x d y => eqB (PySem.W.mroIn K (ga K x) (.ref (ga K d))) (some true) && (eqO (PySem.W.ks_superIn K (ga K x) (ga K d) "__init__") (some (some (.ref (ma K (ga K y) "__init__")))) && (decide (PySem.W.typeIn K (.ref (ma K (ga K y) "__init__")) = some (.type "function")) && PySem.W.fnIn K (ma K (ga K y) "__init__")))
  | .own x => eqO (PySem.W.findIn K (.ref (ga K x)) "__class__") (some (some (.builtin "object.__class__"))) && (eqO (PySem.W.specialIn K (.builtin "object.__class__") "__get__") (some (some (.builtin "getset_descriptor.__get__"))) && (eqB (PySem.W.takesIn K (.builtin "object.__class__")) (some true) && eqB (PySem.W.mroIn K (ga K x) (.type "object")) (some true)))
  | .isi t c b => eqB (PySem.W.kitOne K (vTy K t) (vTy K c)) (some b)
  | .top => eqO (PySem.W.nsIn K mainGlobals "super") (some none) && eqO (PySem.W.nsIn K cStatics "thirdparty.any") (some none)
section
variable {K : PySem.W.Frag}
theorem fm_meth {x m y : Str} (c : (Fm.meth x m y).ok K = true) : Meth K (ga K x) m (ma K (ga K y) m) := by
  obtain ⟨c1, c⟩ := ba c
  obtain ⟨c2, c3⟩ := ba c
  exact ⟨eqO_ok c1, c2, c3⟩
theorem fm_prop {x f y : Str} (c : (Fm.prop x f y).ok K = true) : PropOf K (ga K x) f (ppA K y f) (pgA K y f) := by
  obtain ⟨c1, c⟩ := ba c
  obtain ⟨c2, c⟩ := ba c
  obtain ⟨c3, c4⟩ := ba c
  refine ⟨eqO_ok c1, eqO_ok c2, of_decide_eq_true c3, ?_⟩
  unfold pgA
  split at c4
  · rename_i g r e
    exact ⟨r, by rw [e]⟩
  · cases c4
theorem fm_ini {x y : Str} (c : (Fm.ini x y).ok K = true) : Mk K (ga K x) (ma K (ga K y) "__init__") := by
  obtain ⟨c1, c⟩ := ba c
  obtain ⟨c2, c⟩ := ba c
  obtain ⟨c3, c4⟩ := ba c
  exact ⟨c1, eqO_ok c2, c3, c4⟩
theorem fm_sup {x d y : Str} (c : (Fm.sup x d y).ok K = true) : SupC K (ga K x) (ga K d) (ma K (ga K y) "__init__") := by
  obtain ⟨c1, c⟩ := ba c
  obtain ⟨c2, c⟩ := ba c
  obtain ⟨c3, c4⟩ := ba c
  exact ⟨of_decide_eq_true c1, eqO_ok c2, of_decide_eq_true c3, c4⟩
theorem fm_own {x : Str} (c : (Fm.own x).ok K = true) (hC : Cls K (ga K x)) : OwnC K x := by
  obtain ⟨c1, c⟩ := ba c
  obtain ⟨c2, c⟩ := ba c
  obtain ⟨c3, c4⟩ := ba c
  exact ⟨fun H a dx fs e => .base (.ins e hC (eqO_ok c1) (eqO_ok c2) (of_decide_eq_true c3) (of_decide_eq_true c4))⟩
theorem fm_isi {t c : Ky} {b : Bool} (h : (Fm.isi t c b).ok K = true) : PySem.W.kitOne K (vTy K t) (vTy K c) = some b := of_decide_eq_true h
theorem fm_top (c : Fm.top.ok K = true) : PySem.W.nsIn K mainGlobals "super" = some none ∧ PySem.W.nsIn K cStatics "thirdparty.any" = some none := by
  obtain ⟨c1, c2⟩ := ba c
  exact ⟨eqO_ok c1, eqO_ok c2⟩
end
/-! ### defs -/
structure DefM where
  at_ : Pth
  name : Str
  qual : Str
  params : Arguments
  body : List Stmt
  scope : Scope
  /-- the class of a def that says super() -/
  sup : Option Str := none
abbrev FnM : Type := Option (Str × Str × Arguments × FuncBody × Scope × Addr × Addr)
def fnM (K : PySem.W.Frag) (a : Addr) : FnM := match K.lookup a with
  | some ⟨_, _, .func fd, _⟩ => some (fd.name, fd.qualname, fd.params, fd.body, fd.scope, fd.globals, fd.builtins)
  | _ => none
def DefM.val (d : DefM) : FnM := some (d.name, d.qual, d.params, .stmts d.body, d.scope, mainGlobals, builtinsNs)
def noneB : Value → Bool
  | .none => true
  | _ => false
def strB (file : Str) : Option Value → Bool
  | some (.str f _) => file == f
  | _ => false
theorem strB_ok {file : Str} {o : Option Value} (h : strB file o = true) : ∃ f t, o = some (.str f t) ∧ (file == f) = true := by
  unfold strB at h
  split at h
  · exact ⟨_, _, rfl, h⟩
  · cases h
def cloB (K : PySem.W.Frag) (file : Str) (fd : FuncData) : Option Str → Bool
  | none => (match fd.closure with | [] => true | _ => false)
  | some d => (match fd.closure with
    | [(x, cc)] => decide (x = "__class__") && ((match K.lookup cc with | some ⟨_, _, .cell (some (.ref D)), _⟩ => decide (D = ga K d) | _ => false) &&
      ((match fd.code with | .ref cda => (match K.lookup cda with | some ⟨_, _, .fields vs, _⟩ => strB file vs[2]? | _ => false) | _ => false) && (PySem.W.clsIn K (ga K d)).isSome))
    | _ => false)
def DefM.ok (K : PySem.W.Frag) (file : Str) (d : DefM) : Bool := PySem.W.keepIn K (.ref (d.at_.a K)) && (match K.lookup (d.at_.a K) with
  | some ⟨_, _, .func fd, _⟩ => PySem.W.codeIn K fd.code d.qual && (noneB fd.defaults && cloB K file fd d.sup)
  | _ => false)
theorem DefM.funD {K : PySem.W.Frag} {file : Str} {d : DefM} (hs : d.sup = none) (e : fnM K (d.at_.a K) = d.val) (c : d.ok K file = true) : ∃ fd, FunD K d.name d.qual d.params d.body d.scope [] [] (d.at_.a K) fd := by
  obtain ⟨kp, c2⟩ := ba c
  unfold fnM at e
  cases q : K.lookup (d.at_.a K) with
  | none => rw [q] at c2; cases c2
  | some o =>
    obtain ⟨oc, od, dt, osl⟩ := o
    rw [q] at c2 e
    cases dt with
    | func fd =>
      obtain ⟨n1, n2, n3, n4, n5, n6, n7, n8, n9, n10, n11, n12, n13, n14, n15⟩ := fd
      have e2 : (some (n1, n2, n3, n4, n5, n6, n15) : FnM) = some (d.name, d.qual, d.params, .stmts d.body, d.scope, mainGlobals, builtinsNs) := e
      simp only [Option.some.injEq, Prod.mk.injEq] at e2
      obtain ⟨h1, h2, h3, h4, h5, h6, h8⟩ := e2
      subst h1 h2 h3 h4 h5 h6 h8
      rw [hs] at c2
      obtain ⟨k1, k2⟩ := ba c2
      obtain ⟨k3, k4⟩ := ba k2
      cases n7 with
      | cons a r => cases k4
      | nil =>
        cases n8 with
        | none => exact ⟨_, ⟨oc, od, .none, n9, n10, n11, n12, n13, n14, osl, rfl, q, k1, .inl ⟨rfl, rfl⟩, .inl rfl⟩, kp⟩
        | _ => cases k3
    | _ => cases c2
theorem DefM.supD {P : Program} {K : PySem.W.Frag} {d : DefM} {D : Str} (hs : d.sup = some D) (e : fnM K (d.at_.a K) = d.val) (c : d.ok K P.main.file = true) (ht : Fm.top.ok K = true) (hp : (P.main.scope.names.lookup ("super" : Str)).isSome = false) :
    ∃ fd, SupD P K d.name d.qual d.params d.body d.scope (ga K D) (d.at_.a K) fd := by
  obtain ⟨t1, t2⟩ := fm_top ht
  obtain ⟨kp, c2⟩ := ba c
  unfold fnM at e
  cases q : K.lookup (d.at_.a K) with
  | none => rw [q] at c2; cases c2
  | some o =>
    obtain ⟨oc, od, dt, osl⟩ := o
    rw [q] at c2 e
    cases dt with
    | func fd =>
      obtain ⟨n1, n2, n3, n4, n5, n6, n7, n8, n9, n10, n11, n12, n13, n14, n15⟩ := fd
      have e2 : (some (n1, n2, n3, n4, n5, n6, n15) : FnM) = some (d.name, d.qual, d.params, .stmts d.body, d.scope, mainGlobals, builtinsNs) := e
      simp only [Option.some.injEq, Prod.mk.injEq] at e2
      obtain ⟨h1, h2, h3, h4, h5, h6, h8⟩ := e2
      subst h1 h2 h3 h4 h5 h6 h8
      rw [hs] at c2
      obtain ⟨k1, k2⟩ := ba c2
      obtain ⟨k3, k4⟩ := ba k2
      unfold cloB at k4
      cases n7 with
      | nil => cases k4
      | cons a r =>
        cases r with
        | cons _ _ => cases k4
        | nil =>
          obtain ⟨x, cc⟩ := a
          obtain ⟨j1, j2⟩ := ba k4
          obtain ⟨j3, j4⟩ := ba j2
          obtain ⟨j5, j6⟩ := ba j4
          have ex : x = "__class__" := of_decide_eq_true j1
          subst ex
          cases n8 with
          | none =>
           cases n13 with
           | ref cda =>
            have j5' : (match K.lookup cda with | some ⟨_, _, .fields vs, _⟩ => strB P.main.file vs[2]? | _ => false) = true := j5
            refine ⟨_, ⟨oc, od, n9, n10, n11, n12, cda, n14, osl, cc, rfl, q, k1, ?_, ?_⟩, kp, Option.isSome_iff_exists.mp j6, t1, t2, hp⟩
            · split at j3
              · rename_i hc
                have ed := of_decide_eq_true j3
                subst ed
                exact ⟨_, _, _, hc⟩
              · cases j3
            · split at j5'
              · rename_i hc
                obtain ⟨f, t, hv, hf⟩ := strB_ok j5'
                exact ⟨_, _, _, _, _, _, hc, hv, hf⟩
              · cases j5'
           | _ => cases k1
          | _ => cases k3
    | _ => cases c2
/-! ### the Hook -/
def asM (g : Addr → Option Obj) : Nat → List Addr
  | 0 => [mainGlobals, cStatics]
  | n + 1 => growD g (asM g n)
abbrev AlM : Type := Bool × List FnM
def obsM (file : Str) (fa : List Fm) (fn : List DefM) (K : PySem.W.Frag) : AlM := ((fa.all fun f => f.ok K) && fn.all fun d => d.ok K file, fn.map fun d => fnM K (d.at_.a K))
def valM (fn : List DefM) : AlM := (true, fn.map DefM.val)
def SaysM (file : Str) (fa : List Fm) (fn : List DefM) (K : PySem.W.Frag) : Prop := obsM file fa fn K = valM fn
def obsMG (n : Nat) (file : Str) (fa : List Fm) (fn : List DefM) (g : Addr → Option Obj) : AlM := obsM file fa fn (frG g (asM g n))
def hookM (n : Nat) (file : Str) (fa : List Fm) (fn : List DefM) : PySem.W.Hook where
  α := AlM
  obs := fun s => obsMG n file fa fn s.heap.get?
  val := fun _ => valM fn
  says := fun _ h => ∃ K : PySem.W.Frag, K.In h ∧ SaysM file fa fn K
  of := fun _ _ e => ⟨_, frG_in, e⟩
  keeps := fun _ _ _ ⟨K, hK, c⟩ k => ⟨K, PySem.W.Frag.In.keeps hK k, c⟩
theorem obsMG_eq {n : Nat} {file : Str} {fa : List Fm} {fn : List DefM} {g : Addr → Option Obj} {s : Shared} (h : ∀ a, g a = s.heap.get? a) : obsMG n file fa fn g = (hookM n file fa fn).obs s := by
  have e : g = s.heap.get? := funext h
  rw [e] <;> rfl
section
variable {file : Str} {fa : List Fm} {fn : List DefM} {K : PySem.W.Frag}
theorem SaysM.fact (c : SaysM file fa fn K) {f : Fm} (i : Nat) (h : fa[i]? = some f) : f.ok K = true := by
  have c1 := (ba (show ((fa.all fun f => f.ok K) && fn.all fun d => d.ok K file) = true from congrArg (fun z : AlM => z.1) c)).1
  exact List.all_eq_true.mp c1 f (List.mem_of_getElem? h)
theorem SaysM.def_ (c : SaysM file fa fn K) (i : Nat) {d : DefM} (h : fn[i]? = some d) : fnM K (d.at_.a K) = d.val ∧ d.ok K file = true := by
  have c2 := (ba (show ((fa.all fun f => f.ok K) && fn.all fun d => d.ok K file) = true from congrArg (fun z : AlM => z.1) c)).2
  have e : fn.map (fun d => fnM K (d.at_.a K)) = fn.map DefM.val := congrArg (fun z : AlM => z.2) c
  have e2 : (fn.map fun d => fnM K (d.at_.a K))[i]? = (fn.map DefM.val)[i]? := by rw [e]
  rw [List.getElem?_map, List.getElem?_map, h] at e2
  exact ⟨Option.some.inj e2, List.all_eq_true.mp c2 d (List.mem_of_getElem? h)⟩
end
end Lx
set_option Elab.async false
set_option linter.all false
set_option maxRecDepth 100000
set_option maxHeartbeats 4000000
/-! Lx13: the pen made, the law's def; promises packed; calls by names. -/
namespace Lx
open PySem PySem.Spec L2 PyProof.Rows He
/-! ### the pen -/
abbrev rLst1 (K : PySem.W.Frag) : List V → Hp → VK → Prop := fun xs H Q => ∃ p ys, xs = [.ref p] ∧ (SqL K H p ys ∨ SqT K H p ys) ∧ ∀ l, H l = none → Q (.ref l) (upd H l (.lst ys))
def t_pen (K : PySem.W.Frag) : TS := tRet (tDisp [(kk "cells", tCB (rLst1 K) (tCons (L2.tSl (rSlU K) (tVar 0) tNoPart (tPart (tC (.int 63)))) tNil)), (kk "turn", tC (.int 0)), (kk "left", tC (.int 0))])
/-- the pen's promise -/
def spPen (K : PySem.W.Frag) : Sp := fun vs H Q _ => ∃ (a : Addr) (ns : List Int), vs = [.ref a] ∧ SqL K H a (ns.map V.int) ∧
  ∀ (p l : Addr) (cs : List Int) (H' : Hp), H p = none → H l = none → cs.length ≤ 63 → (∀ b o, H b = some o → H' b = some o) → H' p = some (.dK (penKvs l 0 0)) → H' l = some (.lst (cs.map V.int)) → l ≠ p → Q (.ref p) H'
theorem spPen.len {K : PySem.W.Frag} (vs : List V) (H : Hp) (Q : VK) (E : XK) (h : spPen K vs H Q E) : vs.length = 1 := by
  obtain ⟨_, _, rfl, _⟩ := h
  rfl
theorem cut_ints (ns : List Int) : ∃ cs : List Int, cs.length ≤ 63 ∧ cutV (ns.map V.int) none (some 63) = cs.map V.int := by
  unfold cutV
  refine ⟨(ns.drop (HT.sIx (ns.map V.int).length 0 none)).take (HT.sIx (ns.map V.int).length (ns.map V.int).length (some 63) - HT.sIx (ns.map V.int).length 0 none), ?_, ?_⟩
  · rw [List.length_take]
    refine Nat.le_trans (Nat.min_le_left _ _) (Nat.le_trans (Nat.sub_le _ _) ?_)
    show HT.sIx _ _ (some 63) ≤ 63
    unfold HT.sIx
    simp only
    split
    · omega
    · exact Nat.min_le_left _ _
  · rw [List.map_take, List.map_drop]
theorem pen_pure {K : PySem.W.Frag} {N : List Str} {vs : List V} {H : Hp} {Q : VK} {E : XK} (h : spPen K vs H Q E) : t_pen K { nx := fun _ H' => Q .non H', rt := Q } (L2.start N vs) H := by
  obtain ⟨a, ns, rfl, hs, q⟩ := h
  obtain ⟨cs, hcs, ecs⟩ := cut_ints ns
  intro p hp
  have s1 : SqL K (upd H p (.dK [])) a (ns.map V.int) := Le.sqL (Le.up hp) hs
  refine ⟨.ref a, rfl, ⟨63, rfl, .inr (.inl ⟨a, _, rfl, s1, fun b hb => ?_⟩)⟩⟩
  rw [ecs]
  refine ⟨b, _, rfl, .inl (SqL.of upd_same), fun l hl => ?_⟩
  have hbp : b ≠ p := fun z => by rw [z, upd_same] at hb; cases hb
  have hlb : l ≠ b := fun z => by rw [z, upd_same] at hl; cases hl
  have hlp : l ≠ p := fun z => by rw [z, upd_ne hbp.symm, upd_same] at hl; cases hl
  have hb0 : H b = none := by rw [upd_ne hbp] at hb; exact hb
  have hl0 : H l = none := by rw [upd_ne hlb, upd_ne hlp] at hl; exact hl
  refine ⟨by rw [upd_ne hlp.symm, upd_ne hbp.symm, upd_same], penKvs l 0 0, rfl, (show 3 ≤ 15 by decide), ?_⟩
  refine q p l cs _ hp hl0 hcs (fun c o e => ?_) upd_same (by rw [upd_ne hlp, upd_same]) hlp
  rw [upd_ne (ne_of_none e hp), upd_ne (ne_of_none e hl0), upd_ne (ne_of_none e hb0), upd_ne (ne_of_none e hp)]
  exact e
/-! ### promises, packed -/
structure Fk (P : Program) (w : World) (K : PySem.W.Frag) (mg : Str → Option Value) (base : Heap) (k : Nat) (f : Addr) (sp : Sp) : Prop where
  ex : ∃ fd ps, FnOk P w K mg base CX0 k f fd ps sp ∧ Binds K fd ps [] ∧ PySem.W.keepIn K (.ref f) = true
/-- a method that may be called by its parameters' names ks -/
structure Fkw (P : Program) (w : World) (K : PySem.W.Frag) (mg : Str → Option Value) (base : Heap) (k : Nat) (f : Addr) (ks : List Str) (sp : Sp) : Prop where
  ex : ∃ fd ps, FnOk P w K mg base CX0 k f fd ps sp ∧ (∀ (s : Shared) (u : Value) (ws : List Value), ws.length = ks.length → BindsTo s fd ⟨[u], ks.zip ws⟩ (ps.zip (u :: ws))) ∧ PySem.W.keepIn K (.ref f) = true ∧ ps.length = ks.length + 1
theorem FnOk.up {P : Program} {w : World} {K : PySem.W.Frag} {mg : Str → Option Value} {base : Heap} {CX : CXT} {j k : Nat} {f : Addr} {fd : FuncData} {ps : List Str} {sp : Sp} (F : FnOk P w K mg base CX j f fd ps sp) (h : j ≤ k) : FnOk P w K mg base CX k f fd ps sp :=
  ⟨F.len, fun A outer s H args us vs Q E hr => F.run A outer s H args us vs Q E (hr.mono h)⟩
section
variable {P : Program} {w : World} {K : PySem.W.Frag} {mg : Str → Option Value} {base : Heap} {k : Nat} {f : Addr} {sp sq : Sp}
theorem Fk.imp (F : Fk P w K mg base k f sp) (h : ∀ vs H Q E, sq vs H Q E → sp vs H Q E) : Fk P w K mg base k f sq := by
  obtain ⟨fd, ps, G, r⟩ := F.ex
  exact ⟨fd, ps, G.imp h, r⟩
theorem Fkw.imp {ks : List Str} (F : Fkw P w K mg base k f ks sp) (h : ∀ vs H Q E, sq vs H Q E → sp vs H Q E) : Fkw P w K mg base k f ks sq := by
  obtain ⟨fd, ps, G, r⟩ := F.ex
  exact ⟨fd, ps, G.imp h, r⟩
theorem Fk.up {j : Nat} (F : Fk P w K mg base k f sp) (h : k ≤ j) : Fk P w K mg base j f sp := by
  obtain ⟨fd, ps, G, r⟩ := F.ex
  exact ⟨fd, ps, FnOk.up G h, r⟩
theorem Fkw.up {ks : List Str} {j : Nat} (F : Fkw P w K mg base k f ks sp) (h : k ≤ j) : Fkw P w K mg base j f ks sp := by
  obtain ⟨fd, ps, G, r⟩ := F.ex
  exact ⟨fd, ps, FnOk.up G h, r⟩
/-- nothing is promised: it stands at every depth -/
theorem FnOk.none {CX : CXT} {fd : FuncData} {ps : List Str} (h : ∀ vs H Q E, ¬ sp vs H Q E) : FnOk P w K mg base CX k f fd ps sp :=
  ⟨fun vs H Q E q => absurd q (h _ _ _ _), fun A outer s H args us vs Q E _ _ _ _ q => absurd q (h _ _ _ _)⟩
end
section
variable {X : Cx} {k : Nat} {f : Addr} {sp : Sp} {x m : Str} {p pos apos : Pos} {e o : Expr} {es : List Expr} {t : TA} {ta : TE}
theorem pe_fk (F : Fk X.prog X.w X.K X.mg X.base k f sp) (hr : Room k X.A) (hg : Gl X x) (hm : X.mg x = some (.ref f)) (ha : PA X (e :: es) t)
    (hdb : (x == ("__debug__" : Str)) = false := by decide) (he : starEach (e :: es) X.env = (false, eval e X.env) :: starEach es X.env := by rfl) (hpl : (backTo pos (starEach es X.env)).any (·.1) = false := by rfl) :
    PE X (.Call (.Name x p) (e :: es) [] pos) (tCall sp [] E0 t) := by
  obtain ⟨fd, ps, G, hb, hk⟩ := F.ex
  exact pe_call G hr hg hm hk hb .nil pass0 ha hdb he hpl
theorem pe_fk0 (F : Fk X.prog X.w X.K X.mg X.base k f sp) (hr : Room k X.A) (hg : Gl X x) (hm : X.mg x = some (.ref f)) (hdb : (x == ("__debug__" : Str)) = false := by decide) : PE X (.Call (.Name x p) [] [] pos) (tCall sp [] E0 tNil) := by
  obtain ⟨fd, ps, G, hb, hk⟩ := F.ex
  exact pe_call0 G hr hg hm hk hb .nil pass0 hdb
theorem FunD.kwB {K : PySem.W.Frag} {x qual : Str} {params : Arguments} {body : List Stmt} {scope : Scope} {kws : List (Str × V)} {f : Addr} {fd : FuncData} {ps ks : List Str} (F : FunD K x qual params body scope [] kws f fd)
    (h : ∀ (kV doc pm : Value) (an : Option Addr) (cdv ct : Value) (u : Value) (ws : List Value), ws.length = ks.length → bindArgs (PySem.W.fnOf x qual params body scope .none kV doc pm an cdv ct) ⟨[u], ks.zip ws⟩ = pure (ps.zip (u :: ws))) (s : Shared) (u : Value) (ws : List Value) (hl : ws.length = ks.length) : BindsTo s fd ⟨[u], ks.zip ws⟩ (ps.zip (u :: ws)) := by
  obtain ⟨oc, od, dV, kV, doc, pm, an, cdv, ct, osl, rfl, lk, hcd, hD, hK⟩ := F.ex
  rcases hD with ⟨_, rfl⟩ | ⟨e, _⟩
  · exact .of_eq (h kV doc pm an cdv ct u ws hl)
  · exact absurd rfl e
/-- an object made -/
theorem pe_mk {C : Addr} (M : Mk X.K C f) (F : Fk X.prog X.w X.K X.mg X.base k f sp) (hr : Room (k + 1) X.A) (hg : Gl X x) (hm : X.mg x = some (.ref C)) (ha : PA X (e :: es) t)
    (hdb : (x == ("__debug__" : Str)) = false := by decide) (he : starEach (e :: es) X.env = (false, eval e X.env) :: starEach es X.env := by rfl) (hpl : (backTo pos (starEach es X.env)).any (·.1) = false := by rfl) :
    PE X (.Call (.Name x p) (e :: es) [] pos) (tMake C sp [] E0 t) := by
  obtain ⟨fd, ps, G, hb, hk⟩ := F.ex
  exact pe_make M G hr hg hm hb .nil pass0 ha hdb he hpl
theorem ment {n j : Nat} {c : Str} {g : List D → W D} (hC : Cls X.K (ga X.K c)) (hm : Meth X.K (ga X.K c) m f) (F : Fk X.prog X.w X.K X.mg X.base k f (Pr X.K (n + 1) g)) (hr : Room k X.A) : MEnt X m n c g := by
  obtain ⟨fd, ps, G, hb, hk⟩ := F.ex
  exact ⟨CX0, k, f, fd, ps, hC, hm, G, hr, hb, pass0⟩
theorem pent {c : Str} {p : Addr} {g : List D → W D} (hC : Cls X.K (ga X.K c)) (hm : PropOf X.K (ga X.K c) m p f) (F : Fk X.prog X.w X.K X.mg X.base k f (Pr X.K 1 g)) (hr : Room (k + 1) X.A) : PEnt X m c g := by
  obtain ⟨fd, ps, G, hb, hk⟩ := F.ex
  exact ⟨CX0, k, p, f, fd, ps, hC, hm, G, hr, hb, pass0⟩
/-- by names -/
structure MEntK (X : Cx) (m : Str) (n : Nat) (ks : List Str) (c : Str) (g : List D → W D) : Prop where
  ex : ∃ (k : Nat) (f : Addr), Cls X.K (ga X.K c) ∧ Meth X.K (ga X.K c) m f ∧ Fkw X.prog X.w X.K X.mg X.base k f ks (Pr X.K (n + 1) g) ∧ Room k X.A
inductive MTabK (X : Cx) (m : Str) (n : Nat) (ks : List Str) : Tb → Prop
  | nil : MTabK X m n ks []
  | cons {c : Str} {g : List D → W D} {tb : Tb} : MEntK X m n ks c g → MTabK X m n ks tb → MTabK X m n ks ((c, g) :: tb)
theorem MTabK.get {n : Nat} {ks : List Str} {c : Str} {g : List D → W D} : ∀ {tb : Tb}, MTabK X m n ks tb → tb.lookup c = some g → MEntK X m n ks c g
  | _, .nil, h => by cases h
  | _, .cons (c := d) a r, h => by
    rw [List.lookup_cons] at h
    cases q : (c == d) with
    | true => rw [q] at h; cases h; rw [eq_of_beq q]; exact a
    | false => rw [q] at h; exact r.get h
theorem pe_methUK {n : Nat} {ks : List Str} {tb : Tb} {kws : List Keyword} {pl : Sem Bool} (T : MTabK X m n ks tb) (he : PE X o ta) (ha : PK X kws t)
    (hall : (backToKw pos (keywordEach kws X.env)).all (·.1.isSome) = true := by rfl) (hks : (backToKw pos (keywordEach kws X.env)).filterMap (·.1) = ks := by rfl)
    (hpl : ((backTo pos (starEach [] X.env)).any (·.1) || (backToKw pos (keywordEach kws X.env)).any (·.1.isNone)) = false := by rfl)
    (ht : eval (.Call (.Attribute o m apos) [] kws pos) X.env = (do
      let ov ← eval o X.env
      standAt apos.atName
      let (f, first) ← holding [ov] (getMethod ov m pl)
      callWith pos f first (backTo pos (starEach [] X.env)) (backToKw pos (keywordEach kws X.env))) := by rfl) : PE X (.Call (.Attribute o m apos) [] kws pos) (tMethU X.K m n tb ta t) := by
  refine ⟨fun pins s σ H Q I h => ?_⟩
  refine PySem.W.methodCall_KW (pl := pl) (thn (he.run pins s σ H _ I h) fun u s1 ⟨x, H1, I1, rx, a, c, dx, fs, g, ex, ea, l, eg, q⟩ => ?_) ht
  subst ex
  obtain rfl : u = Value.ref a := rx
  obtain ⟨k, f, hC, hm, F, hr⟩ := (T.get eg).ex
  obtain ⟨fd, ps, G, hb, hk, hpl2⟩ := F.ex
  refine getmeth_ok I1 ea hC hm l ?_
  refine PySem.W.callWith_KW0 (first := [.ref a]) (h₀ := X.base) I.ok.mod.kin hm.kp hall ?_ hpl
  refine thn (ha.run pos pins s1 σ H1 _ I1 q) fun ws s2 ⟨zs, H2, I2, rz, q2⟩ => ⟨I2.kIn, ?_⟩
  rw [hks]
  have hz : (V.ref a :: zs).length = ps.length := G.len _ _ _ _ q2
  have hw : ws.length = ks.length := by
    rw [← rz.length]
    rw [List.length_cons, hpl2] at hz
    omega
  refine wpAny_call (codeAny_mono (G.run X.A X.stack s2 H2 ⟨[.ref a], ks.zip ws⟩ (.ref a :: ws) (.ref a :: zs) Q E0 hr I2.env0 (hb s2 (.ref a) ws hw) (.cons rfl rz) q2) fun r s' hq => ?_)
  cases r with
  | error e => exact (pass0 (X := X)) pins σ H2 s2 e s' I2 hq
  | ok fl =>
    cases fl with
    | ret u => exact I2.after hq
    | next => exact False.elim hq
    | brk => exact False.elim hq
    | cont => exact False.elim hq
end
/-! ### a, b = x, y -/
@[reducible] def dPar (i j : Nat) (f : List Sl → W (List D)) : List Sl → W Out := fun δ => (f δ).bind fun ds => match ds with
  | [x, y] => W.ret (.nx ((δ.set i (.val x)).set j (.val y)))
  | _ => W.stuck
theorem ls_par {K : PySem.W.Frag} {i j : Nat} {t : TA} {f : List Sl → W (List D)} (ha : LA K t f) : LS K (tPar i j t) (dPar i j f) := fun pn F0 H0 F H n σ δ E k o s q => by
  refine ha pn H0 F H n σ δ _ o s ((f δ).mono (fun m ds p => ?_) (fun _ _ z => z) q)
  intro vs F1 H1 k1 o1 r1
  match ds, r1, p with
  | [x, y], r1, p =>
    obtain ⟨v, w, rfl, rv, rw_⟩ := r1.two
    exact ⟨v, w, rfl, p _ F1 H1 k1.sub (k.trans k1 o1.fpn) o1 (((s.go k1).set rv).set rw_)⟩
/-! ### is of bools -/
@[reducible] def isBD : D → D → W D
  | .bl a, .bl b => W.ret (.bl (decide (a = b)))
  | _, _ => W.stuck
theorem lo_isB {K : PySem.W.Frag} : LO2 K rIsB isBD := fun pn F H n v w x y Q o rx ry h => by
  cases rx with
  | bl i => cases ry with
    | bl j => exact ⟨i, j, rfl, rfl, h _ F H (Go.refl ..) o (.bl _)⟩
    | _ => exact h.elim
  | _ => exact h.elim
/-! ### the law's def -/
def spLaw (K : PySem.W.Frag) : Sp := fun vs H Q _ => ∃ (a : Addr) (ns : List Int), vs = [.ref a] ∧ SqL K H a (ns.map V.int) ∧ ∀ H', Q (.bl true) H'
theorem law_lx {P : Program} {w : World} {K : PySem.W.Frag} {mg : Str → Option Value} {base : Heap} {x qual : Str} {params : Arguments} {body : List Stmt} {scope : Scope} {f : Addr} {fd : FuncData} {N ps : List Str} {k r : Nat} {t : TS} {b : List Sl → W Out}
    (F : FunD K x qual params body scope [] [] f fd) (S : FnScope N ps scope) (hps : ps.length = 1) (hN : N.length = r + 2) (hl : LS K t b)
    (hb : ∀ (cdv : Value) (A : Around) (outer : List Env) (s : Shared) (H : Hp) (E : XK), (A.deeper (envOfC qual scope s.heap.objs.size f cdv)).guards = some [] → Room k (A.deeper (envOfC qual scope s.heap.objs.size f cdv)) →
      PSs (cxOf CX0 P w K mg base N qual scope f cdv A outer s H E).nox body (tSeq (tAsg (tCall (spPen K) [] E0 (tCons (tVar 0) tNil)) (gName 1)) t))
    (hw : ∀ ns : List Int, (b (.val (.sct ns) :: .val .pen :: List.replicate r .un)).wp (2 ^ 60) (fun _ o => o = .rt (.bl true)) noX) : FnG P w K mg base CX0 (k + 1) f fd ps (spLaw K) := by
  refine fnG_of F S (fun vs H Q E h => by obtain ⟨_, _, rfl, _⟩ := h; exact hps.symm) fun cdv A outer s H vs Q E hg hr h => ⟨_, (hb cdv A outer s H E hg hr).nox, ?_⟩
  obtain ⟨a, ns, rfl, hs, q⟩ := h
  have est : L2.start N [V.ref a] = some (.ref a) :: none :: List.replicate r none := by
    unfold L2.start
    rw [hN]
    rfl
  rw [est]
  refine ⟨.ref a, rfl, a, ns, rfl, hs, fun p l cs H' hp hl0 hcs hk hp' hl' hlp => ?_⟩
  have lF : Le (upd H l (.lst (cs.map V.int))) H' := fun c o e => by
    by_cases hc : c = l
    · subst hc; rw [upd_same] at e; cases e; exact hl'
    · rw [upd_ne hc] at e; exact hk c o e
  have ok : Ok K p (upd H l (.lst (cs.map V.int))) H' (2 ^ 60) := ⟨lF, by rw [upd_ne hlp.symm]; exact hp, l, cs, 0, 0, hp', SqL.of upd_same, hcs, by decide, by decide, by decide⟩
  have slo : Slo K p H' (upd H l (.lst (cs.map V.int))) H' (some (.ref a) :: some (.ref p) :: List.replicate r none) (.val (.sct ns) :: .val .pen :: List.replicate r .un) := by
    have un : ∀ (i : Nat) (x : Sl), (List.replicate r Sl.un)[i]? = some x → x = .un := fun i x e => by
      rw [List.getElem?_replicate] at e
      split at e
      · cases e; rfl
      · cases e
    refine ⟨by simp, fun i d e => ?_, fun _ => 0, fun i xs e => ?_, fun i j xs ys e => ?_⟩
    · match i, e with
      | 0, e => cases e; exact ⟨_, rfl, .sct (Le.sqL (Le.up hl0) hs)⟩
      | 1, e => cases e; exact ⟨_, rfl, .pen⟩
      | i + 2, e => cases un i _ e
    · match i, e with
      | 0, e => cases e
      | 1, e => cases e
      | i + 2, e => cases un i _ e
    · match i, e with
      | 0, e => cases e
      | 1, e => cases e
      | i + 2, e => cases un i _ e
  refine hl p _ H' _ H' _ _ _ _ (Go.refl ..) ok slo ((b _).mono (fun n o z => ?_) (fun _ _ z => z) (hw ns))
  subst z
  intro v F1 H1 _ _ r1
  cases r1
  exact q H1
end Lx
set_option Elab.async false
set_option linter.all false
set_option maxRecDepth 100000
set_option maxHeartbeats 4000000
/-! Lx14: texts walked, global constants, tables by promises, replace of written texts. -/
namespace Lx
open PySem PySem.Spec L2 PyProof.Rows He CwR
/-! ### a text walked -/
@[reducible] def dIS (f : List Sl → W D) : List Sl → W (List D) := fun δ => (f δ).bind fun d => match d with | .str x => W.ret (x.cps.toList.map fun c => .str ⟨#[c]⟩) | _ => W.stuck
theorem li_str {K : PySem.W.Frag} {te : TE} {f : List Sl → W D} (he : LE K te f) : LI K (iStr te) (dIS f) := fun pn H0 F H n σ δ R o s h => by
  refine he pn H0 F H n σ δ _ o s ((f δ).mono (fun m d p => ?_) (fun _ _ z => z) h)
  intro v F1 H1 k1 o1 r1
  cases r1 with
  | str x =>
    refine ⟨x, rfl, p _ F1 H1 k1 o1 fun i F2 H2 n2 l2 o2 => ⟨fun d hd => ?_, fun hl => ?_⟩⟩
    · rw [List.getElem?_map] at hd
      cases e : x.cps.toList[i]? with
      | none => rw [e] at hd; cases hd
      | some c =>
        rw [e] at hd; cases hd
        have e2 : x.cps[i]? = some c := by simpa using e
        refine ⟨(Array.getElem?_eq_some_iff.mp e2).1, fun y H3 hy => ?_⟩
        obtain ⟨rfl, c', hc', rfl⟩ := hy
        rw [e2] at hc'; cases hc'
        exact ⟨F2, Go.refl .., o2, .str _⟩
    · show x.cps.size ≤ i
      simpa using hl
  | _ => exact p.elim
/-! ### constants of the module -/
section
variable {X : Cx}
theorem pe_gi {x : Str} {i : Int} {pos : Pos} (h : ∃ t, X.mg x = some (.int i t)) (hg : Gl X x) (hd : (x == ("__debug__" : Str)) = false := by decide) : PE X (.Name x pos) (tC (.int i)) := by
  obtain ⟨t, e⟩ := h
  exact pe_glob hg e ⟨t, rfl⟩ hd
theorem pe_gs {x z : Str} {pos : Pos} (h : ∃ t, X.mg x = some (.str z t)) (hg : Gl X x) (hd : (x == ("__debug__" : Str)) = false := by decide) : PE X (.Name x pos) (tC (.str z)) := by
  obtain ⟨t, e⟩ := h
  exact pe_glob hg e ⟨t, rfl⟩ hd
end
/-! ### tables by promises -/
section
variable (P : Program) (w : World) (K : PySem.W.Frag) (mg : Str → Option Value) (base : Heap)
inductive TabK (k : Nat) (m : Str) (n : Nat) : Tb → Prop
  | nil : TabK k m n []
  | cons {c : Str} {g : List D → W D} {tb : Tb} {f : Addr} : Cls K (ga K c) → Meth K (ga K c) m f → Fk P w K mg base k f (Pr K (n + 1) g) → TabK k m n tb → TabK k m n ((c, g) :: tb)
inductive TabN (k : Nat) (m : Str) (n : Nat) (ks : List Str) : Tb → Prop
  | nil : TabN k m n ks []
  | cons {c : Str} {g : List D → W D} {tb : Tb} {f : Addr} : Cls K (ga K c) → Meth K (ga K c) m f → Fkw P w K mg base k f ks (Pr K (n + 1) g) → TabN k m n ks tb → TabN k m n ks ((c, g) :: tb)
inductive TabP (k : Nat) (x : Str) : Tb → Prop
  | nil : TabP k x []
  | cons {c : Str} {g : List D → W D} {tb : Tb} {p f : Addr} : Cls K (ga K c) → PropOf K (ga K c) x p f → Fk P w K mg base k f (Pr K 1 g) → TabP k x tb → TabP k x ((c, g) :: tb)
end
section
variable {X : Cx} {k n : Nat} {m : Str} {tb : Tb}
theorem TabK.mt (T : TabK X.prog X.w X.K X.mg X.base k m n tb) (hr : Room k X.A) : MTab X m n tb := by
  induction T with
  | nil => exact .nil
  | cons a b c _ ih => exact .cons (ment (j := 0) a b c hr) ih
theorem TabN.mt {ks : List Str} (T : TabN X.prog X.w X.K X.mg X.base k m n ks tb) (hr : Room k X.A) : MTabK X m n ks tb := by
  induction T with
  | nil => exact .nil
  | cons a b c _ ih => exact .cons ⟨_, _, a, b, c, hr⟩ ih
theorem TabP.pt (T : TabP X.prog X.w X.K X.mg X.base k m tb) (hr : Room (k + 1) X.A) : PTab X m tb := by
  induction T with
  | nil => exact .nil
  | cons a b c _ ih => exact .cons (pent a b c hr) ih
end
/-! ### g().replace(y, z) of written texts, g a def that tells a written text -/
theorem fn_const {P : Program} {w : World} {K : PySem.W.Frag} {mg : Str → Option Value} {base : Heap} {x qual : Str} {params : Arguments} {scope : Scope} {f : Addr} {fd : FuncData} {N : List Str} {k j : Nat} {c : Str} {p1 p2 : Pos}
    (F : FunD K x qual params [.Return (some (.Constant (.str c) j p1)) p2] scope [] [] f fd) (S : FnScope N [] scope) {A : Around} {outer : List Env} {s : Shared} {H : Hp} (hr : Room (k + 1) A) (he : Env0 P w K mg base A outer s H) (hb : Binds K fd [] []) :
    codeAny (model P w) A (.call (.ref f) ⟨[], []⟩) (fun r s' => CR CX0 outer P w H s (fun v H' => v = .str c ∧ H' = H) E0 r s' ∧ 1 ≤ s'.toks) s := by
  obtain ⟨oc, od, dV, kV, doc, pm, an, cdv, ct, osl, rfl, lk, hcd, _, _⟩ := F.ex
  have st : ∀ b o, base.get? b = some o → s.heap.get? b = some o := fun b o e => (he.bs b o e).1
  have KX : K.In s.heap := he.mod.kin.keeps st
  refine codeAny_call_function hr.depth (KX _ _ lk) rfl S.co S.gen rfl (PySem.W.codeRec_of KX hcd) (hb s [] KX rfl _ _ _ _ (wpAny_newFunctionEnv_cells S.kind (fun y hy => by cases hy) fun env ee s1 ic => ?_))
  subst ee
  refine ⟨(he.mod.nolimit.keeps st).keeps ic.toInCall.keep, codeAny_func ?_⟩
  have I : Inv (cxOf CX0 P w K mg base N qual scope f cdv A outer s H E0) [] (L2.start N []) H s1 := inv_start (us := []) (vs := []) (ps := []) S hr.hd he rfl .nil ic
  refine wpAny_execs_cons (wpAny_Return_some (Calls.Constant_str ?_))
  have J := I.tok (s1.toks + 1)
  exact ⟨⟨.str c, H, J.os, J.bare, J.base, J.hok, ⟨_, rfl⟩, rfl, rfl⟩, Nat.succ_le_succ (Nat.zero_le _)⟩
section
variable {X : Cx}
theorem pe_crepl {x qual : Str} {params : Arguments} {scope : Scope} {f : Addr} {fd : FuncData} {N : List Str} {k j j2 j3 : Nat} {c y z g r : Str} {p1 p2 p3 p4 c0 c1 apos pos : Pos}
    (F : FunD X.K x qual params [.Return (some (.Constant (.str c) j p1)) p2] scope [] [] f fd) (S : FnScope N [] scope) (hb : Binds X.K fd [] []) (hr : Room (k + 1) X.A) (hg : Gl X g) (hm : X.mg g = some (.ref f))
    (hyz : (y == z) = false) (hz : c.length + (c.length + 1) * z.length ≤ 16777216) (he : Txt.replace c y z = r) (hdb : (g == ("__debug__" : Str)) = false := by decide)
    (hst : starEach [.Constant (.str y) j2 c0, .Constant (.str z) j3 c1] X.env = [(false, eval (.Constant (.str y) j2 c0) X.env), (false, eval (.Constant (.str z) j3 c1) X.env)] := by rfl)
    (hbase : attributeBase (.Call (.Name g p3) [] [] p4) "replace" X.env (eval (.Call (.Name g p3) [] [] p4) X.env) = eval (.Call (.Name g p3) [] [] p4) X.env := by rfl) (hline : (apos.endLine == pos.line) = true := by rfl) :
    PE X (.Call (.Attribute (.Call (.Name g p3) [] [] p4) "replace" apos) [.Constant (.str y) j2 c0, .Constant (.str z) j3 c1] [] pos) (tC (.str r)) := by
  refine ⟨fun pins s σ H Q I h => ?_⟩
  refine PySem.Call_method2 hbase hst hline ?_
  refine wpAny_Call_Name_kw (ld_glob I hg hm ?_ hdb)
  refine PySem.W.callWith_K0 I.kIn F.kp ?_
  refine wpAny_call (codeAny_mono (fn_const F S hr I.env0 hb) fun rr s1 h2 => ?_)
  obtain ⟨h2, h3⟩ := h2
  cases rr with
  | error e => exact h2.elim
  | ok fl => cases fl with
    | next => exact False.elim h2
    | brk => exact False.elim h2
    | cont => exact False.elim h2
    | ret u =>
      obtain ⟨v, H1, I1, rv, ev, eh⟩ := I.after h2
      subst ev eh
      obtain ⟨tx, rfl⟩ := rv
      refine ⟨"str", _, PySem.F.plainAttrs_str, PySem.F.slot_str_replace, PySem.F.type_str_replace, typeIs_str _ _ _, (fun _ e => nomatch e), Calls.callWith_builtin rfl (Calls.evalArgs_plain (Calls.spliced_cons ?_))⟩
      refine Calls.Constant_str (Calls.spliced_cons (Calls.Constant_str (Calls.spliced_nil ?_)))
      exact PySem.SC.replace (by show s1.toks ≠ 0; omega) (by show s1.toks + 1 ≠ 0; omega) (by show s1.toks ≠ s1.toks + 1; omega) hyz hz fun t' k => ⟨.str r, _, I1.tok k, ⟨t', by rw [he]⟩, h⟩
end
end Lx
set_option Elab.async false
set_option linter.all false
set_option maxRecDepth 100000
set_option maxHeartbeats 4000000
/-! Lx15: what a mirror tells: Rt (it gives just this, no draw), Tm (at most B draws, any answer with Q). -/
namespace Lx
open PySem L2
def Rt {A : Type} (m : W A) (a : A) : Prop := ∀ (n : Nat) (Q : Nat → A → Prop) (E : Nat → Xn → Prop), Q n a → m.wp n Q E
def Tm {A : Type} (B : Nat) (m : W A) (Q : A → Prop) : Prop := ∀ (n : Nat) (E : Nat → Xn → Prop), B ≤ n → m.wp n (fun k a => n ≤ k + B ∧ Q a) E
section
variable {A C : Type} {m : W A} {a : A} {f : A → W C} {b : C} {B B1 B2 : Nat} {Q : A → Prop} {R : C → Prop}
theorem Rt.ret : Rt (W.ret a) a := fun _ _ _ q => q
theorem Rt.bind (h : Rt m a) (g : Rt (f a) b) : Rt (m.bind f) b := fun n Q E q => h n _ E (g n Q E q)
theorem Rt.need {c : Prop} (h : c) (g : Rt m a) : Rt (W.need c m) a := fun n Q E q => ⟨h, g n Q E q⟩
theorem Rt.cast {a' : A} (h : Rt m a) (e : a = a') : Rt m a' := e ▸ h
theorem Tm.ret (h : Q a) : Tm B (W.ret a) Q := fun n E _ => ⟨Nat.le_add_right _ _, h⟩
theorem Tm.of (h : Rt m a) (q : Q a) : Tm B m Q := fun n E _ => h n _ E ⟨Nat.le_add_right _ _, q⟩
theorem Tm.bind (h : Tm B1 m Q) (g : ∀ a, Q a → Tm B2 (f a) R) (hb : B1 + B2 ≤ B) : Tm B (m.bind f) R := fun n E hn =>
  m.mono (fun k a ⟨h1, h2⟩ => (f a).mono (fun j c ⟨h3, h4⟩ => ⟨by omega, h4⟩) (fun _ _ z => z) (g a h2 k E (by omega))) (fun _ _ z => z) (h n E (by omega))
theorem Tm.bindR (h : Rt m a) (g : Tm B (f a) R) : Tm B (m.bind f) R := fun n E hn => h n _ E (g n E hn)
theorem Tm.need {c : Prop} (h : c) (g : Tm B m Q) : Tm B (W.need c m) Q := fun n E hn => ⟨h, g n E hn⟩
theorem Tm.mono {Q' : A → Prop} (h : Tm B1 m Q) (hb : B1 ≤ B) (hq : ∀ a, Q a → Q' a) : Tm B m Q' := fun n E hn => m.mono (fun k a ⟨h1, h2⟩ => ⟨by omega, hq a h2⟩) (fun _ _ z => z) (h n E (by omega))
theorem Tm.any {P : A → Prop} : Tm 1 (W.any 1 P) P := fun n E hn => ⟨n - 1, by omega, fun a q => ⟨by omega, q⟩⟩
theorem Tm.wp (h : Tm B m Q) {n : Nat} {E : Nat → Xn → Prop} (hb : B ≤ n) : m.wp n (fun _ a => Q a) E := m.mono (fun k a z => z.2) (fun _ _ z => z) (h n E hb)
end
theorem draw_t {m : Int} (h0 : 0 < m) (h1 : m < 1073741824) : Tm 1 (drawD [.pen, .int m]) (fun d => ∃ i : Int, d = .int i ∧ 0 ≤ i ∧ i < m) := Tm.need ⟨h0, h1⟩ Tm.any
/-! ### objects made -/
section
variable {c : Str} {g : Addr → List (Str × D) → List D → W (List (Str × D))} {ds : List D} {gs : List (Str × D)} {δ : List Sl} {f : List Sl → W (List D)} {m : Nat}
theorem make_r (hf : Rt (f δ) ds) (hm : ds.length = m) (h : ∀ x, Rt (g x [] ds) gs) : Rt (dMake c m g f δ) (.obj c gs) := Rt.bind hf (Rt.need hm fun n Q E q x => h x n _ E q)
end
/-! ### comprehensions, loops -/
section
variable {i : Nat} {ft : List Sl → W Bool} {fe : List Sl → W D} {δ : List Sl}
theorem lcD_r {p : D → Bool} {g : D → D} : ∀ (ds : List D) (k : Nat), k + ds.length ≤ sizeLine → (∀ d ∈ ds, Rt (ft (δ.set i (.val d))) (p d)) → (∀ d ∈ ds, p d = true → Rt (fe (δ.set i (.val d))) (g d)) → Rt (lcD (dName i) ft fe δ ds k) ((ds.filter p).map g)
  | [], _, _, _, _ => Rt.ret
  | d :: ds, k, hk, h1, h2 => by
    have hk2 : k + 1 + ds.length ≤ sizeLine := by rw [List.length_cons] at hk; omega
    refine Rt.bind Rt.ret (Rt.bind (h1 d List.mem_cons_self) ?_)
    cases e : p d with
    | false =>
      rw [List.filter_cons_of_neg (by rw [e]; decide)]
      exact lcD_r ds k (by omega) (fun x hx => h1 x (List.mem_cons_of_mem _ hx)) fun x hx => h2 x (List.mem_cons_of_mem _ hx)
    | true =>
      rw [List.filter_cons_of_pos e, List.map_cons]
      refine Rt.bind (h2 d List.mem_cons_self e) (Rt.need (by omega) (Rt.bind (lcD_r ds (k + 1) hk2 (fun x hx => h1 x (List.mem_cons_of_mem _ hx)) fun x hx => h2 x (List.mem_cons_of_mem _ hx)) Rt.ret))
theorem lcD_t {B : Nat} {P : D → Prop} : ∀ (ds : List D) (k : Nat), k + ds.length ≤ sizeLine → (∀ d ∈ ds, Rt (ft (δ.set i (.val d))) true) → (∀ d ∈ ds, Tm B (fe (δ.set i (.val d))) P) → Tm (B * ds.length) (lcD (dName i) ft fe δ ds k) (fun ys => ys.length = ds.length ∧ ∀ y ∈ ys, P y)
  | [], _, _, _, _ => Tm.ret ⟨rfl, fun y z => nomatch z⟩
  | d :: ds, k, hk, h1, h2 => by
    have hk2 : k + 1 + ds.length ≤ sizeLine := by rw [List.length_cons] at hk; omega
    refine Tm.bindR Rt.ret (Tm.bindR (h1 d List.mem_cons_self) ?_)
    refine Tm.bind (h2 d List.mem_cons_self) (fun y hy => Tm.need (by omega) (Tm.bind (lcD_t ds (k + 1) hk2 (fun x hx => h1 x (List.mem_cons_of_mem _ hx)) fun x hx => h2 x (List.mem_cons_of_mem _ hx)) (fun ys hys => Tm.ret (B := 0) ?_) (Nat.le_refl _))) (by rw [List.length_cons, Nat.mul_succ, Nat.add_zero, Nat.add_comm]; exact Nat.le_refl _)
    refine ⟨by rw [List.length_cons, List.length_cons, hys.1], fun z hz => ?_⟩
    rcases List.mem_cons.mp hz with rfl | hz
    · exact hy
    · exact hys.2 z hz
/-- a loop that goes on to its end -/
theorem forD_t {B : Nat} {dg : D → List Sl → W (List Sl)} {gb : List Sl → W Out} {I : List D → List Sl → Prop} : ∀ (ds : List D) (δ : List Sl), I ds δ → (∀ d r δ, I (d :: r) δ → Tm B ((dg d δ).bind gb) (fun o => ∃ ε, o = .nx ε ∧ I r ε)) → Tm (B * ds.length) (forD dg gb ds δ) (fun o => ∃ ε, o = .nx ε ∧ I [] ε)
  | [], δ, h, _ => Tm.ret ⟨δ, rfl, h⟩
  | d :: ds, δ, h, hs => by
    have e : forD dg gb (d :: ds) δ = ((dg d δ).bind gb).bind fun o => match o with | .nx ε => forD dg gb ds ε | .ct ε => forD dg gb ds ε | .bk ε => W.ret (.nx ε) | .rt d => W.ret (.rt d) := rfl
    rw [e]
    refine Tm.bind (hs d ds δ h) (fun o ho => ?_) (by rw [List.length_cons, Nat.mul_succ, Nat.add_comm]; exact Nat.le_refl _)
    obtain ⟨ε, rfl, hI⟩ := ho
    exact forD_t ds ε hI hs
end
/-! ### the combinators -/
section
variable {δ ε : List Sl} {d x y z : D} {ds : List D} {i j mm : Nat} {f fa fb fc : List Sl → W D} {t ta tb : List Sl → W Bool} {fl fr' : List Sl → W (List D)} {g h : List Sl → W Out} {b c : Bool} {o u : Out}
theorem Rt.var (e : δ[i]? = some (.val d)) : Rt (dVar i δ) d := by unfold dVar; rw [e]; exact Rt.ret
theorem Rt.cC : Rt (dC d δ) d := Rt.ret
theorem Rt.op2 {g : D → D → W D} (ha : Rt (fa δ) x) (hb : Rt (fb δ) y) (hg : Rt (g x y) z) : Rt (dOp2 g fa fb δ) z := Rt.bind ha (Rt.bind hb hg)
theorem Rt.op1 {g : D → W D} (ha : Rt (fa δ) x) (hg : Rt (g x) z) : Rt (dOp1 g fa δ) z := Rt.bind ha hg
theorem Rt.opn {g : List D → W D} (ha : Rt (fl δ) ds) (hg : Rt (g ds) z) : Rt (dOpn g fl δ) z := Rt.bind ha hg
theorem Rt.nil : Rt (dNil δ) [] := Rt.ret
theorem Rt.cons (ha : Rt (fa δ) x) (hr : Rt (fl δ) ds) : Rt (dCons fa fl δ) (x :: ds) := Rt.bind ha (Rt.bind hr Rt.ret)
theorem Rt.tup (ha : Rt (fl δ) ds) (hz : ds.length ≤ sizeLine) : Rt (dTup fl δ) (.tup ds) := Rt.bind ha (Rt.need hz Rt.ret)
theorem Rt.lst (ha : Rt (fl δ) ds) (hz : ds.length ≤ sizeLine) : Rt (dLst fl δ) (.lst ds) := Rt.bind ha (Rt.need hz Rt.ret)
theorem Rt.test (ha : Rt (fa δ) (.bl b)) : Rt (dTest fa δ) b := Rt.bind ha Rt.ret
theorem Rt.tru (ha : Rt (fa δ) x) (hb : Rt (truD x) b) : Rt (dTru fa δ) b := Rt.bind ha hb
theorem Rt.andF (ha : Rt (ta δ) false) : Rt (dAnd ta tb δ) false := Rt.bind ha Rt.ret
theorem Rt.andT (ha : Rt (ta δ) true) (hb : Rt (tb δ) b) : Rt (dAnd ta tb δ) b := Rt.bind ha hb
theorem Rt.orT (ha : Rt (ta δ) true) : Rt (dOr ta tb δ) true := Rt.bind ha Rt.ret
theorem Rt.orF (ha : Rt (ta δ) false) (hb : Rt (tb δ) b) : Rt (dOr ta tb δ) b := Rt.bind ha hb
theorem Rt.not (ha : Rt (ta δ) b) : Rt (dNot ta δ) (!b) := Rt.bind ha Rt.ret
theorem Rt.andV (ha : Rt (fa δ) (.bl b)) (hb : b = true → Rt (fb δ) (.bl c)) : Rt (dAndV fa fb δ) (.bl (b && c)) := by
  refine Rt.bind ha (Rt.bind Rt.ret ?_)
  cases b with
  | true => exact hb rfl
  | false => exact Rt.ret
theorem Rt.orV (ha : Rt (fa δ) (.bl b)) (hb : b = false → Rt (fb δ) (.bl c)) : Rt (dOrV fa fb δ) (.bl (b || c)) := by
  refine Rt.bind ha (Rt.bind Rt.ret ?_)
  cases b with
  | true => exact Rt.ret
  | false => exact hb rfl
theorem Rt.notV (ha : Rt (fa δ) (.bl b)) : Rt (dNotV fa δ) (.bl (!b)) := Rt.bind ha (Rt.bind Rt.ret Rt.ret)
theorem Rt.ifE (ht : Rt (t δ) b) (h : Rt (match b with | true => fa δ | false => fb δ) d) : Rt (dIfE t fa fb δ) d := Rt.bind ht h
theorem Rt.seq (hg : Rt (g δ) (.nx ε)) (hh : Rt (h ε) o) : Rt (dSeq g h δ) o := Rt.bind hg hh
theorem Rt.seqR (hg : Rt (g δ) (.rt d)) : Rt (dSeq g h δ) (.rt d) := Rt.bind hg Rt.ret
theorem Rt.next : Rt (dNext δ) (.nx δ) := Rt.ret
theorem Rt.asg (hf : Rt (f δ) d) : Rt (dAsg f (dName i) δ) (.nx (δ.set i (.val d))) := Rt.bind hf (Rt.bind Rt.ret Rt.ret)
theorem Rt.rets (hf : Rt (f δ) d) : Rt (dRet f δ) (.rt d) := Rt.bind hf Rt.ret
theorem Rt.drop (hf : Rt (f δ) d) : Rt (dDrop f δ) (.nx δ) := Rt.bind hf Rt.ret
theorem Rt.ifT (ht : Rt (t δ) true) (hg : Rt (g δ) o) : Rt (dIf t g h δ) o := Rt.bind ht hg
theorem Rt.ifF (ht : Rt (t δ) false) (hg : Rt (h δ) o) : Rt (dIf t g h δ) o := Rt.bind ht hg
theorem Rt.call {G : List D → W D} (hf : Rt (fl δ) ds) (hm : ds.length = mm) (hg : Rt (G ds) d) : Rt (dCall mm G fl δ) d := Rt.bind hf (Rt.need hm hg)
theorem Rt.eqT {a : Str} : Rt (eqD (.str a) (.str a)) (.bl true) := Rt.ret.cast (by simp)
theorem Rt.eqF {a b : Str} (h : a ≠ b) : Rt (eqD (.str a) (.str b)) (.bl false) := Rt.ret.cast (by simp [h])
theorem Rt.bodyR {N : List Str} {bd : List Sl → W Out} (hb : Rt (bd (startD N ds)) (.rt d)) : Rt (dBody N bd ds) d := Rt.bind hb Rt.ret
theorem Rt.bodyN {N : List Str} {bd : List Sl → W Out} (hb : Rt (bd (startD N ds)) (.nx ε)) : Rt (dBody N bd ds) .non := Rt.bind hb Rt.ret
theorem Rt.ixT {xs : List D} {k : Int} (e : atI xs k = some d) : Rt (ixD (.tup xs) (.int k)) d := by show Rt (match atI xs k with | some d => W.ret d | none => W.stuck) d; rw [e]; exact Rt.ret
theorem Rt.ixL {xs : List D} {k : Int} (e : atI xs k = some d) : Rt (ixD (.lst xs) (.int k)) d := by show Rt (match atI xs k with | some d => W.ret d | none => W.stuck) d; rw [e]; exact Rt.ret
theorem Rt.fld {c : Str} {gs : List (Str × D)} {x : Str} (ha : Rt (fa δ) (.obj c gs)) (e : gs.lookup x = some d) : Rt (dFld x fa δ) d := Rt.bind ha (by dsimp only; rw [e]; exact Rt.ret)
theorem Rt.prop {c : Str} {gs : List (Str × D)} {tb : Tb} {G : List D → W D} (ha : Rt (fa δ) (.obj c gs)) (e : tb.lookup c = some G) (hg : Rt (G [.obj c gs]) d) : Rt (dProp tb fa δ) d := Rt.bind ha (by dsimp only; rw [e]; exact hg)
theorem Rt.meth {c m : Str} {gs : List (Str × D)} {tb : Tb} {G : List D → W D} (ha : Rt (fa δ) (.obj c gs)) (hn : gs.lookup m = none) (e : tb.lookup c = some G) (hf : Rt (fl δ) ds) (hm : ds.length = mm) (hg : Rt (G (.obj c gs :: ds)) d) : Rt (dMeth m mm tb fa fl δ) d :=
  Rt.bind ha (Rt.need hn (by rw [e]; exact Rt.bind hf (Rt.need hm hg)))
theorem Rt.ms {G : Str → List D → W D} {a : Str} (ho : Rt (fa δ) (.str a)) (hf : Rt (fl δ) ds) (hg : Rt (G a ds) d) : Rt (dMs G fa fl δ) d := Rt.bind ho (Rt.bind hf hg)
theorem Rt.par (hf : Rt (fl δ) [x, y]) : Rt (dPar i j fl δ) (.nx ((δ.set i (.val x)).set j (.val y))) := Rt.bind hf Rt.ret
theorem Rt.noPart : Rt (dNoPart δ) none := Rt.ret
theorem Rt.part {k : Int} (hf : Rt (f δ) (.int k)) : Rt (dPart f δ) (some k) := Rt.bind hf Rt.ret
theorem Rt.sl {lo hi : List Sl → W (Option Int)} {l k : Option Int} (ha : Rt (fa δ) x) (hl : Rt (lo δ) l) (hh : Rt (hi δ) k) (hg : Rt (slD x l k) d) : Rt (dSl fa lo hi δ) d := Rt.bind ha (Rt.bind hl (Rt.bind hh hg))
theorem Rt.chT {g g2 : D → D → W D} (ha : Rt (fa δ) x) (hb : Rt (fb δ) y) (hg : Rt (g x y) (.bl true)) (hc : Rt (fc δ) z) (hg2 : Rt (g2 y z) d) : Rt (dChain g g2 fa fb fc δ) d := Rt.bind ha (Rt.bind hb (Rt.bind hg (Rt.bind Rt.ret (Rt.bind hc hg2))))
theorem Rt.chF {g g2 : D → D → W D} (ha : Rt (fa δ) x) (hb : Rt (fb δ) y) (hg : Rt (g x y) (.bl false)) : Rt (dChain g g2 fa fb fc δ) (.bl false) := Rt.bind ha (Rt.bind hb (Rt.bind hg (Rt.bind Rt.ret Rt.ret)))
end
end Lx
set_option Elab.async false
set_option linter.all false
set_option maxRecDepth 100000
set_option maxHeartbeats 4000000
/-! Lx16: a list taken apart, a text turned round. -/
namespace Lx
open PySem PySem.Spec L2 PyProof.Rows
@[reducible] def dGLst (n : Nat) (b : List D → List Sl → W (List Sl)) : D → List Sl → W (List Sl) := fun d δ => match d with | .lst ds => W.need (ds.length = n) (b ds δ) | _ => W.stuck
theorem lg_lst {K : PySem.W.Frag} {vs : List Nat} {k : Nat} {t : TGs} {b : List D → List Sl → W (List Sl)} (hb : LGs K vs t b) : LG K vs (gLst K k t) (dGLst k b) := fun pn H0 F H n σ δ v d Q o s r h => by
  cases r with
  | lst a r => exact ⟨_, _, rfl, SqL.of (o.fro _ _ a), (r.len.trans h.1), hb pn H0 F H n σ δ _ _ Q o s r h.2⟩
  | _ => exact h.elim
/-! ### text[::-1] -/
def revS (x : Str) : Str := ⟨x.cps.toList.reverse.toArray⟩
def tRevS (te : TE) : TE := fun σ H Q => te σ H fun v H1 => ∃ x, v = .str x ∧ x.length ≤ sizeLine ∧ Q (.str (revS x)) H1
theorem rev_idx (n : Nat) : Builtin.Str.strSliceIndices none none (-1) n = (List.range n).reverse := by
  show sliceRange ((n : Int) - 1) (-1) (-1) = _
  rw [PySem.W.krv_sliceRange, PySem.W.krv_range]
theorem rev_pick (x : Str) : (Builtin.Str.strSliceIndices none none (-1) x.length).filterMap (x.cps[·]?) = x.cps.toList.reverse := by
  rw [rev_idx, List.filterMap_reverse]
  exact congrArg List.reverse (PySem.W.krv_all x.cps)
section
variable {X : Cx}
theorem pe_revS {e : Expr} {te : TE} {k : Nat} {p1 p2 p3 pos : Pos} (he : PE X e te) : PE X (.Subscript e (.Slice none none (some (.UnaryOp .USub (.Constant (.int 1) k p1) p2)) p3) pos) (tRevS te) := by
  refine ⟨fun pins s σ H Q I h => ?_⟩
  refine Subscript_ (thn (he.run pins s σ H _ I h) fun v s1 ⟨x, H1, I1, r1, q1⟩ => ?_)
  obtain ⟨y, ex, hz, q⟩ := q1
  subst ex
  obtain ⟨ty, rfl⟩ := r1
  have hst : PO X (some (.UnaryOp .USub (.Constant (.int 1) k p1) p2)) (tPart (tUn (rU fun i => .int (-i)) (tC (.int 1)))) := po_some (pe_un un_neg pe_int)
  refine wpAny_Slice (thn (po_none.run pins s1 σ H1 (fun o H2 => o = none ∧ H2 = H1) I1 ⟨rfl, rfl⟩) fun vl s2 ⟨l, H2, I2, pl, el, e2⟩ => ?_)
  subst el e2
  refine thn (po_none.run pins s2 σ H2 (fun o H3 => o = none ∧ H3 = H2) I2 ⟨rfl, rfl⟩) fun vu s3 ⟨u, H3, I3, pu, eu, e3⟩ => ?_
  subst eu e3
  refine thn (hst.run pins s3 σ H3 (fun o H4 => o = some (-1) ∧ H4 = H3) I3 ⟨1, rfl, -1, rfl, rfl, rfl⟩) fun vs s4 ⟨o, H4, I4, ps, eo, e4⟩ => ?_
  subst eo e4
  have I5 : Inv X pins σ H4 { s4 with heap := s4.heap.push { cls := .type "slice", data := .fields #[vl, vu, vs] } } := I4.kept (t' := s4.toks) fun b ob q => Heap.get?_push_of_some _ q
  obtain ⟨l, rfl, hl⟩ := IsPart.raw pl
  obtain ⟨u, rfl, hu⟩ := IsPart.raw pu
  obtain ⟨st, rfl, hst2⟩ := IsPart.raw ps
  cases l with
  | some z => cases hl
  | none => cases u with
    | some z => cases hu
    | none => cases st with
      | none => cases hst2
      | some z =>
        obtain ⟨zi, zt⟩ := z
        have ez : zi = (-1 : Int) := Option.some.inj hst2
        subst ez
        show wpAny (model X.prog X.w) X.A (subscriptTail e (.Slice none none (some (.UnaryOp .USub (.Constant (.int 1) k p1) p2)) p3) (.str y ty) (.ref s4.heap.objs.size)) (EP X pins σ Q) X.xe _
        refine tail_any (ops := [.str y ty, .ref s4.heap.objs.size]) (typeIs_str _ _ _) (PySem.F.slot_str_getitem.lookup) ?_ (by with_unfolding_all rfl)
        obtain ⟨os, hos, hcs, hds⟩ := Heap.IsSliceOf.new s4.heap (partValue none) (partValue none) (partValue (some (-1, zt)))
        refine wpAny_getItem_str_slice (l := none) (u := none) (st := some (-1, zt)) ⟨os, hos, hcs, hds⟩ rfl ?_
        show Made.post (if ((-1 : Int) == 1 && (Builtin.Str.strSliceIndices none none (-1) y.length).length == y.length) = true then Made.val (.str y ty) else Made.str ⟨((Builtin.Str.strSliceIndices none none (-1) y.length).filterMap (y.cps[·]?)).toArray⟩) (EP X pins σ Q) _
        have hc : (((-1 : Int) == 1) && (Builtin.Str.strSliceIndices none none (-1) y.length).length == y.length) = false := by rw [show ((-1 : Int) == 1) = false from rfl, Bool.false_and]
        rw [if_neg (by rw [hc]; decide), rev_pick]
        exact ⟨by show (⟨y.cps.toList.reverse.toArray⟩ : Str).length ≤ sizeLine; have : (⟨y.cps.toList.reverse.toArray⟩ : Str).length = y.length := (by simp [Str.length]); rw [this]; exact hz, .str (revS y), H4, I5.tok _, ⟨_, rfl⟩, q⟩
end
@[reducible] def dRevS (f : List Sl → W D) : List Sl → W D := fun δ => (f δ).bind fun d => match d with
  | .str x => W.need (x.length ≤ sizeLine) (W.ret (.str (revS x)))
  | _ => W.stuck
theorem le_revS {K : PySem.W.Frag} {te : TE} {f : List Sl → W D} (he : LE K te f) : LE K (tRevS te) (dRevS f) := fun pn H0 F H n σ δ Q o s h => by
  refine he pn H0 F H n σ δ _ o s ((f δ).mono (fun m x q => ?_) (fun _ _ z => z) h)
  intro v F1 H1 g1 o1 r1
  cases r1 with
  | str x => exact ⟨x, rfl, q.1, q.2 _ F1 H1 g1 o1 (.str _)⟩
  | _ => exact q.elim
end Lx
set_option Elab.async false
set_option linter.all false
set_option maxRecDepth 100000
set_option maxHeartbeats 4000000
/-! Lx17: sorted(set(text)). -/
namespace Lx
open PySem PySem.Spec L2 PyProof.Rows PySem.Froz
section
variable {P : Program} {w : World} {A : Around} {E : Value → Shared → Prop} {s : Shared}
/-- a text that is there already -/
theorem add_same {a : Addr} {T : String} {D : SD} {l : List Str} {k : Str} {u : Tok} {Q : Bool → Shared → Prop} (ho : s.heap.get? a = some (sObj T D)) (F : TxOk P w D l) (hk : k ∈ l) (hb : l.length + 1 < scanBound)
    (h : Q false s) : wpAny (model P w) A (setAddHashed a (.str k u) (hashStr w k)) Q E s := by
  obtain ⟨es, ep, t⟩ := D
  have hsz : es.size = l.length := F.sz
  unfold setAddHashed setAddHashedIn
  refine wpAny_holding (wpAny_bind (wpAny_setState_of ho rfl F.fit ?_))
  dsimp only
  rw [byScan_of (knd := PySem.strKind P w) rfl (by show es.size < scanBound; omega) F.el]
  simp only [↓reduceIte]
  unfold setAddByScan
  refine wpAny_bind (wpAny_bind (wpAny_rule (wpAny_bind (wpAny_setScan_of (knd := PySem.strKind P w) (k := k) (strKind_is _ _ _ _) ho rfl F.fit F.el ?_))))
  obtain ⟨e, he, hp⟩ := (F.mem k).mp hk
  cases hr : List.findIdx? (fun e => (PySem.strKind P w).is k e.2) es.toList with
  | none =>
    have := List.findIdx?_eq_none_iff.mp hr e he
    rw [hp] at this; cases this
  | some j =>
    dsimp only
    exact wpAny_pure (wpAny_pure h)
end
/-- the payload is laid in order -/
def Lai (w : World) (D : SD) : Prop := Ris D.2.2.place.toList ∧ (w.params.followText "set-order" = true ∨ D.2.2.led = true)
theorem lai_add {w : World} {D : SD} {h : Int} {v : Value} (L : Lai w D) : Lai w (addTx h v D) := by
  obtain ⟨es, ep, t⟩ := D
  obtain ⟨hr, hl⟩ := L
  have r1 := layNew_ris t es h v hr
  have l1 := layNew_led t es h v
  have key : ∀ (t2 : SetTable) (es1 : Array (Int × Value)) (wd : Bool), Ris t2.place.toList → (w.params.followText "set-order" = true ∨ t2.led = true) → Lai w (tailTx ep es1 t2 wd) := fun t2 es1 wd a b => by
    unfold tailTx
    split
    · exact ⟨relayAll_ris _ _ _, b.imp id fun z => by show (relayAll t2 es1 (SetTable.grown es1.size)).2.1.led = true; rw [relayAll_led]; exact z⟩
    · exact ⟨a, b⟩
  unfold addTx
  refine key _ _ _ ?_ ?_
  · dsimp only
    split
    · exact r1
    · exact r1
  · refine hl.imp id fun z => ?_
    dsimp only
    split
    · show (layNew t es h v).2.1.led = true
      rw [l1]; exact z
    · rw [l1]; exact z
section
variable {prog : Program} {w : World} {A : Around} {R : Result → Shared → Prop} {I : Addr} {fp wr : List Addr} {n : Nat} {St : Nat → Heap → Prop}
theorem set_loop2 {x : Str} (W : Walks prog w A.in1 I fp wr n (SignAt x) St) (hn : n = x.cps.size) (hfp : n < 4000) (S : Addr) (hSf : S ∉ fp) (hSw : S ∉ wr) : ∀ (cs : List Nat) (i : Nat) (acc : List Nat) (D : SD) (s : Shared), x.cps.toList.drop i = cs → i + cs.length = n → St i s.heap → acc.length ≤ i →
      s.heap.get? S = some (sObj "set" D) → TxOk prog w D (acc.map sgn) → Lai w D →
      (∀ h' tk D', (∀ b o, b ∉ S :: wr → s.heap.get? b = some o → h'.get? b = some o) → h'.get? S = some (sObj "set" D') → TxOk prog w D' ((uniq acc cs).map sgn) → Lai w D' → R (.ok (.ret .none)) { s with heap := h', toks := tk }) →
      codeAny (model prog w) A (.builtin "set.update.loop" ⟨[.ref S, .ref I], []⟩) R s
  | [], i, acc, D, s, hd, hi, hst, ha, hS, hF, hL, hR => by
    have hin : i = n := by simpa using hi
    subst hin
    refine codeAny_builtin PyProof.Rows.F.entry_set_update_loop ?_
    rw [Around.under_plainId PyProof.Rows.F.plain_set_update_loop _]
    show wpAny _ A.in1 (pyNext (.ref I) >>= _) _ _ s
    refine wpAny_bind (W.done s _ _ hst fun h' tk' hm => ?_)
    show wpAny _ A.in1 (ret Value.none) _ _ _
    exact wpAny_pure (hR _ _ D (fun b o hb e => hm b o (fun z => hb (List.mem_cons_of_mem _ z)) e) (hm S _ hSw hS) hF hL)
  | c :: r, i, acc, D, s, hd, hi, hst, ha, hS, hF, hL, hR => by
    have hlt : i < n := by simp at hi; omega
    obtain ⟨hx, hd2⟩ : x.cps[i]? = some c ∧ x.cps.toList.drop (i + 1) = r := by
      have h1 : x.cps.toList[i]? = some c := by
        have := congrArg (·[0]?) hd
        simpa using this
      refine ⟨by simpa using h1, ?_⟩
      have := congrArg (·.drop 1) hd
      simpa [List.drop_drop, Nat.add_comm] using this
    refine codeAny_builtin PyProof.Rows.F.entry_set_update_loop ?_
    rw [Around.under_plainId PyProof.Rows.F.plain_set_update_loop _]
    show wpAny _ A.in1 (pyNext (.ref I) >>= _) _ _ s
    refine wpAny_bind (W.item i s _ _ hlt hst fun v h1 tk hP hst' hm => ?_)
    obtain ⟨c', t, hc', rfl⟩ := hP
    rw [hx] at hc'
    cases hc'
    have hS' : h1.get? S = some (sObj "set" D) := hm S _ hSw hS
    show wpAny _ A.in1 (holding [Value.str (sgn c) t] (setAdd S (.str (sgn c) t)) >>= _) _ _ _
    refine wpAny_bind (wpAny_holding ?_)
    unfold setAdd
    refine wpAny_holding ?_
    refine wpAny_bind ((PySem.strKind prog w).pyHash (k := sgn c) (strKind_is _ _ _ _) ?_)
    have hb : (acc.map sgn).length + 1 < scanBound := by rw [List.length_map]; unfold scanBound; omega
    by_cases hc : c ∈ acc
    · have hu : uniq acc (c :: r) = uniq acc r := by simp [uniq, hc]
      refine add_same hS' hF (List.mem_map.mpr ⟨c, hc, rfl⟩) hb ?_
      refine wpAny_pure ⟨plainId_quiet PyProof.Rows.F.plain_set_update_loop _, set_loop2 W hn hfp S hSf hSw r (i + 1) acc D _ hd2 (by simp at hi; omega) hst' (by omega) hS' hF hL fun h'' tk'' D'' hm'' hS'' hF'' hL'' => ?_⟩
      rw [← hu] at hF''
      exact hR h'' tk'' D'' (fun b o hb e => hm'' b o hb (hm b o (fun z => hb (List.mem_cons_of_mem _ z)) e)) hS'' hF'' hL''
    · have hu : uniq acc (c :: r) = uniq (c :: acc) r := by simp [uniq, hc]
      refine add_x hS' hF (fun z => hc ?_) hb ?_
      · obtain ⟨d, hd, e⟩ := List.mem_map.mp z
        rw [← sgn_inj e]; exact hd
      have hget : (h1.update S fun _ => sObj "set" (addTx (hashStr w (sgn c)) (.str (sgn c) t) D)).get? S = some (sObj "set" (addTx (hashStr w (sgn c)) (.str (sgn c) t) D)) := Heap.get?_update_self _ hS' rfl
      refine wpAny_pure ⟨plainId_quiet PyProof.Rows.F.plain_set_update_loop _, set_loop2 W hn hfp S hSf hSw r (i + 1) (c :: acc) _ _ hd2 (by simp at hi; omega) (W.frame _ _ _ hst' fun b hb o e => ?_) (by rw [List.length_cons]; omega) hget (add_ok t hF) (lai_add hL) fun h'' tk'' D'' hm'' hS'' hF'' hL'' => ?_⟩
      · exact (Heap.get?_update_other _ _ (fun h : S = b => hSf (by rw [h]; exact hb))).trans e
      · rw [← hu] at hF''
        refine hR h'' tk'' D'' (fun b o hb e => hm'' b o hb ?_) hS'' hF'' hL''
        exact (Heap.get?_update_other _ _ (fun h : S = b => hb (by rw [h]; exact List.mem_cons_self))).trans (hm b o (fun z => hb (List.mem_cons_of_mem _ z)) e)
end
end Lx
set_option Elab.async false
set_option linter.all false
set_option maxRecDepth 100000
set_option maxHeartbeats 4000000
/-! Lx18: sorted(set(text)). -/
namespace Lx
open PySem PySem.Spec L2 PyProof.Rows PySem.Froz
section
variable {prog : Program} {w : World} {A : Around} {E : Value → Shared → Prop} {s : Shared}
theorem call_set_text2 {x : Str} {u : Tok} {Q : Value → Shared → Prop} (hh : A.handled = none) (hn : x.cps.size < 4000)
    (h : ∀ (h' : Heap) (tk : Nat) (D : SD), h'.get? s.heap.objs.size = some (sObj "set" D) → TxOk prog w D ((uniq [] x.cps.toList).map sgn) → Lai w D →
      (∀ b o, b < s.heap.objs.size → s.heap.get? b = some o → h'.get? b = some o) → Q (.ref s.heap.objs.size) { s with heap := h', toks := tk }) :
    wpAny (model prog w) A (call (.type "set") [.str x u]) Q E s := by
  obtain ⟨c, tl, hmro⟩ := PySem.F.called_set.mro
  have hmade := PySem.F.called_set.made
  have hsub := PySem.F.called_set.sub
  refine wpAny_call (codeAny_of_tree ?_)
  show wpAny _ _ (callAny (.type "set") _) _ _ _
  refine wpAny_pure ⟨Code.quiet_builtin _ (by decide +kernel), codeAny_builtin PySem.F.entry_type_call ?_⟩
  rw [Around.under_plain (weight_type_call_type "set" [.str x u] []) rfl]
  have h1 := PySem.F.called_set.notType
  have h2 := PySem.F.called_set.canCreate
  have hct := PySem.F.typeCall_set_1 (.str x u)
  repeat (any_goals (first | assumption | wp_step))
  refine codeAny_mono (code_set_led1 (.str x u) (E := E) (Q₁ := fun obj s₁ => obj = .ref s.heap.objs.size ∧ s₁ = { s with heap := s.heap.push { cls := .type "set", dict := none, data := .set #[] 0 (.fresh 0 0 (!w.params.followText "set-order")) } }) ⟨rfl, rfl⟩) fun r s₁ hr => ?_
  cases r with
  | error e => exact hr
  | ok fl =>
    cases fl with
    | ret obj =>
      obtain ⟨rfl, rfl⟩ := hr
      generalize hled : (!w.params.followText "set-order") = led
      have hS : (s.heap.push { cls := .type "set", dict := none, data := .set #[] 0 (.fresh 0 0 led) }).get? s.heap.objs.size = some { cls := .type "set", dict := none, data := .set #[] 0 (.fresh 0 0 led) } := Heap.get?_push_size _ rfl
      have hT : Shared.TypeIs { s with heap := s.heap.push { cls := .type "set", dict := none, data := .set #[] 0 (.fresh 0 0 led) } } (.ref s.heap.objs.size) "set" := ⟨_, hS, rfl⟩
      have hli := PySem.F.called_set.init.lookup
      have hbi := PySem.F.called_set.init.bind (.ref s.heap.objs.size)
      repeat (any_goals (first | assumption | wp_step))
      refine codeAny_mono (codeAny_call_builtin (R := wants (fun r s₂ => r = .none ∧ ∃ h' tk D, s₂ = { s with heap := h', toks := tk } ∧
          h'.get? s.heap.objs.size = some (sObj "set" D) ∧ TxOk prog w D ((uniq [] x.cps.toList).map sgn) ∧ Lai w D ∧
          (∀ b o, b < s.heap.objs.size → s.heap.get? b = some o → h'.get? b = some o)) E) PySem.F.called_set.init.plain PySem.F.entry_set_init (check_set_init_1 hT ?_)) fun r₂ s₂ hr₂ => ?_
      · have hsls := PySem.F.sub_str_set
        have hslf := PySem.F.sub_str_frozenset
        have hne : (Value.type "str" == Value.type "dict") = false := by decide
        unfold Builtin.«set.__init__» noKeywords Builtin.Frozenset.updateFrom
        generalize hPI : pyIter = PI
        wp_walk
        subst hPI
        refine wpAny_pyIter_str fun o St hW hst => ?_
        refine wpAny_bind (wpAny_runValue ?_)
        have hh3 : A.in1.in1.in1.handled = none := by simp [hh]
        have hSf : s.heap.objs.size ∉ [(s.heap.push { cls := .type "set", dict := none, data := .set #[] 0 (.fresh 0 0 led) }).objs.size] := by
          rw [Heap.size_push]; simp
        refine set_loop2 (hW _ hh3) rfl hn s.heap.objs.size hSf hSf x.cps.toList 0 [] (#[], 0, .fresh 0 0 led) _ rfl (by simp) hst (Nat.zero_le _) (Heap.get?_push_of_some _ hS) (TxOk.nil rfl) ⟨List.Pairwise.nil, ?_⟩ fun h' tk' D' hm hS' hF' hL' => ?_
        · show _ ∨ led = true
          rw [← hled]
          cases w.params.followText "set-order"
          · exact .inr rfl
          · exact .inl rfl
        · show wpAny _ _ _ _ _ _
          refine wpAny_pure ?_
          show wpAny _ _ (ret Value.none) _ _ _
          refine wpAny_pure ⟨rfl, h', tk', D', rfl, hS', hF', hL', fun b o hb e => ?_⟩
          have hb1 : b ≠ s.heap.objs.size := Nat.ne_of_lt hb
          have hb2 : b ≠ (s.heap.push { cls := .type "set", dict := none, data := .set #[] 0 (.fresh 0 0 led) }).objs.size := by
            rw [Heap.size_push]; exact Nat.ne_of_lt (Nat.lt_succ_of_lt hb)
          exact hm b o (by simp only [List.mem_cons, List.mem_singleton, List.not_mem_nil, or_false, not_or]; exact ⟨hb1, hb2⟩) (Heap.get?_push_of_some _ (Heap.get?_push_of_some _ e))
      · cases r₂ with
        | error e => exact hr₂
        | ok fl₂ =>
          cases fl₂ with
          | ret r =>
            obtain ⟨rfl, h', tk, D, rfl, hS', hF', hL', hk'⟩ := hr₂
            repeat (any_goals (first | assumption | wp_step))
            exact h _ _ D hS' hF' hL' hk'
          | _ => exact hr₂.elim
    | _ => exact hr.elim
end

section
variable {P : Program} {w : World} {A : Around} {E : Value → Shared → Prop} {s : Shared}
theorem strs_of : ∀ (l : List Value), (∀ v ∈ l, ∃ k tk, v = Value.str k tk) → ∃ ss, StrsAre l ss
  | [], _ => ⟨[], .nil⟩
  | v :: l, h => by
    obtain ⟨k, tk, rfl⟩ := h v List.mem_cons_self
    obtain ⟨ss, hs⟩ := strs_of l fun u hu => h u (List.mem_cons_of_mem _ hu)
    exact ⟨k :: ss, .cons k tk hs⟩
theorem strs_vals : ∀ {l : List Value} {ss : List Str}, StrsAre l ss → Vals (ss.map V.str) l
  | _, _, .nil => .nil
  | _, _, .cons k t r => .cons ⟨t, rfl⟩ (strs_vals r)
theorem strs_mem : ∀ {l : List Value} {ss : List Str}, StrsAre l ss → ∀ k, k ∈ ss ↔ ∃ t, Value.str k t ∈ l
  | _, _, .nil, k => by simp
  | _, _, .cons x t r, k => by
    rw [List.mem_cons, strs_mem r k]
    constructor
    · rintro (rfl | ⟨u, h⟩)
      · exact ⟨t, List.mem_cons_self⟩
      · exact ⟨u, List.mem_cons_of_mem _ h⟩
    · rintro ⟨u, h⟩
      rcases List.mem_cons.mp h with h | h
      · cases h; exact .inl rfl
      · exact .inr ⟨u, h⟩
theorem strs_len : ∀ {l : List Value} {ss : List Str}, StrsAre l ss → ss.length = l.length
  | _, _, .nil => rfl
  | _, _, .cons x t r => congrArg (· + 1) (strs_len r)
/-- sorted of such a set: its texts, in some order (the right one) -/
theorem sorted_setS {a : Addr} {D : SD} {l : List Str} {Q : Value → Shared → Prop} (ho : s.heap.get? a = some (sObj "set" D)) (F : TxOk P w D l) (L : Lai w D) (hh : A.handled = none) (h64 : l.length < 64)
    (hQ : ∀ s' p (out : List Value) (c : Nat) (ss : List Str), (∀ b o, s.heap.get? b = some o → s'.heap.get? b = some o) → s'.gens = s.gens → s'.os = s.os → s.heap.objs.size ≤ p →
      s'.heap.get? p = some (seqObj "list" out.toArray c) → StrsAre out ss → ss.length = l.length → (∀ k, k ∈ ss ↔ k ∈ l) → Q (.ref p) s') :
    wpAny (model P w) A (call (.builtin "sorted") [.ref a]) Q E s := by
  obtain ⟨es, ep, t⟩ := D
  have hsz : es.size = l.length := F.sz
  refine Calls.call_function_entry kind_sorted plain_sorted entry_sorted (args_sorted1 _) ?_
  unfold Builtin.«sorted»
  refine wpAny_bind (m := checkCount "sorted" 1 1 _) (wpAny_pure ?_)
  refine wpAny_bind (collect_set (A := A.in1) hh ⟨_, ho, rfl, rfl⟩ F.fit (by show es.size < 4096; omega) L.1 L.2 fun s1 vs k1 hz g1 o1 pm => ?_)
  have hvl : vs.length = l.length := by rw [pm.length_eq, List.length_map, Array.length_toList]; exact hsz
  have hstr : ∀ e ∈ es.toList, ∃ k tk, e.2 = Value.str k tk := fun e he => by
    obtain ⟨⟨k, h, _⟩, _⟩ := F.el e he
    obtain ⟨t, q⟩ := Value.isStrOf_shape h
    exact ⟨k, t, q⟩
  obtain ⟨ss, hS⟩ := strs_of vs fun v hv => by
    obtain ⟨e, he, q⟩ := List.mem_map.mp (pm.mem_iff.mp hv)
    obtain ⟨k, tk, h1⟩ := hstr e he
    exact ⟨k, tk, by rw [← q]; exact h1⟩
  refine wpAny_bind (wpAny_newList ?_ (by rw [hvl, sizeLine_eq]; omega))
  have hoL : (s1.heap.push (seqObj "list" vs.toArray 0)).get? s1.heap.objs.size = some (seqObj "list" vs.toArray 0) := Heap.get?_push_size _ rfl
  refine wpAny_bind (wpAny_holding (wpAny_call_entry slot_list_sort ⟨_, hoL, rfl⟩ entry_list_sort (list_sort_treeK strKind_oneLt hoL hS.keysOf (fun v₁ v₂ rest e => keyKind_strs (by rw [← e]; exact hS)) (by rw [hvl]; exact h64) fun st' hp hs => ⟨_, rfl, ?_⟩) (args_list_sort _)))
  obtain ⟨ss', a1, a2, _⟩ := sorted_out_str hS hp hs
  obtain ⟨c, hc⟩ := sortedHeap_at (vs := vs) (out := (arrOf st').map (·.2)) hoL
  refine wpAny_pure ⟨_, rfl, hQ _ s1.heap.objs.size ((arrOf st').map (·.2)).toList c ss' (fun b u e => ?_) g1 o1 hz (by rw [Array.toArray_toList]; exact hc) a1 ?_ ?_⟩
  · have q := k1 b u e
    have hlt := Heap.lt_size q
    show (sortedHeap (s1.heap.push (seqObj "list" vs.toArray 0)) s1.heap.objs.size vs _).get? b = some u
    rw [sortedHeap_old (Nat.ne_of_lt hlt) (by rw [Heap.size_push]; exact Nat.lt_succ_of_lt hlt)]
    exact Heap.get?_push_of_some _ q
  · rw [a2.length_eq, strs_len hS, hvl]
  · intro k
    rw [a2.mem_iff, strs_mem hS, F.mem k]
    constructor
    · rintro ⟨t, h⟩
      obtain ⟨e, he, q⟩ := List.mem_map.mp (pm.mem_iff.mp h)
      exact ⟨e, he, by rw [q]; exact strKind_is _ _ _ _⟩
    · rintro ⟨e, he, h⟩
      obtain ⟨k2, tk, e2⟩ := hstr e he
      rw [e2] at h
      have : k = k2 := (PySem.strKind P w).inj _ k k2 h (strKind_is _ _ _ _)
      exact ⟨tk, pm.mem_iff.mpr (List.mem_map.mpr ⟨e, he, by rw [e2, this]⟩)⟩
end
def tSortSet (ta : TE) : TE := fun σ H Q => ta σ H fun x H1 => ∃ y, x = .str y ∧ y.cps.size < 60 ∧ ∀ p (cs : List Nat), H1 p = none → cs.length = (uniq [] y.cps.toList).length → (∀ c, c ∈ cs ↔ c ∈ uniq [] y.cps.toList) → Q (.ref p) (upd H1 p (.lst (cs.map fun c => .str (sgn c))))
theorem uniq_le : ∀ (l acc : List Nat), (uniq acc l).length ≤ acc.length + l.length
  | [], acc => Nat.le_refl _
  | c :: r, acc => by
    unfold uniq
    split
    · have := uniq_le r acc; rw [List.length_cons]; omega
    · have := uniq_le r (c :: acc); rw [List.length_cons] at this ⊢; omega
theorem signs_of : ∀ (ss : List Str) (l : List Nat), (∀ k ∈ ss, ∃ c ∈ l, k = sgn c) → ∃ cs : List Nat, ss = cs.map sgn
  | [], _, _ => ⟨[], rfl⟩
  | k :: r, l, h => by
    obtain ⟨c, _, rfl⟩ := h k List.mem_cons_self
    obtain ⟨cs, rfl⟩ := signs_of r l fun z hz => h z (List.mem_cons_of_mem _ hz)
    exact ⟨c :: cs, rfl⟩
section
variable {X : Cx}
theorem pe_sortSet {a : Expr} {ta : TE} {p p2 q pos : Pos} (hc : X.calm = true) (hg : Gl X "sorted") (hm : X.mg "sorted" = none) (hg2 : Gl X "set") (hm2 : X.mg "set" = none) (ha : PE X a ta)
    (na : starEach [a] X.env = (false, eval a X.env) :: starEach [] X.env := by rfl) : PE X (.Call (.Name "sorted" p) [.Call (.Name "set" p2) [a] [] q] [] pos) (tSortSet ta) := by
  refine ⟨fun pins s σ H Q I h => ?_⟩
  refine Call_ (ld_blt I hg hm boot_sorted ?_)
  refine PyProof.Rows.callWith_builtin1 (PyProof.Rows.args_cons ?_ rfl) rfl rfl
  refine Call_ (ld_blt I hg2 hm2 boot_set ?_)
  refine PyProof.Rows.callWith_type1 (PyProof.Rows.args_cons (thn (ha.run pins s σ H _ I h) fun v s1 ⟨x, H1, I1, r1, q1⟩ => PyProof.Rows.args_nil ?_) na) na rfl
  obtain ⟨y, rfl, hy, q1⟩ := q1
  obtain ⟨u, rfl⟩ := r1
  refine call_set_text2 (I1.ok.hd hc) (by omega) fun h' tk D hS hF hL hk => ?_
  refine PyProof.Rows.args_nil ?_
  have I2 : Inv X pins σ H1 { s1 with heap := h', toks := tk } := I1.kept fun b o e => hk b o (Heap.lt_size e) e
  have hul := uniq_le y.cps.toList []
  have h60 : (uniq [] y.cps.toList).length < 64 := by simp at hul; omega
  refine sorted_setS hS hF hL (I2.ok.hd hc) (by rw [List.length_map]; exact h60) fun s' pp out c ss k1 g1 o1 hz ho hA hl hm => ?_
  obtain ⟨cs, rfl⟩ := signs_of ss (uniq [] y.cps.toList) fun k hk => by
    obtain ⟨c, hc, e⟩ := List.mem_map.mp ((hm k).mp hk)
    exact ⟨c, hc, e.symm⟩
  rw [List.length_map, List.length_map] at hl
  have hmem : ∀ c, c ∈ cs ↔ c ∈ uniq [] y.cps.toList := fun c => by
    have := hm (sgn c)
    constructor
    · intro h
      obtain ⟨d, hd, e⟩ := List.mem_map.mp (this.mp (List.mem_map.mpr ⟨c, h, rfl⟩))
      rw [← sgn_inj e]; exact hd
    · intro h
      obtain ⟨d, hd, e⟩ := List.mem_map.mp (this.mpr (List.mem_map.mpr ⟨c, h, rfl⟩))
      rw [← sgn_inj e]; exact hd
  have hv := strs_vals hA
  rw [List.map_map] at hv
  have hzz : (cs.map fun c => V.str (sgn c)).length ≤ sizeLine := by rw [List.length_map, sizeLine_eq, hl]; omega
  have hn : H1 pp = none := I2.hok.fresh hz
  have J : Inv X pins σ (upd H1 pp (.lst (cs.map fun c => V.str (sgn c)))) { ({ s1 with heap := h', toks := tk } : Shared) with heap := s'.heap, gens := s'.gens, drawn := s'.drawn, toks := s'.toks } :=
    I2.call (ch := []) (Un.laid k1 hz hn) (I2.hok.laid k1 hz ⟨hzz, out, c, hv, ho⟩) (by rw [g1]; exact I2.bare) (fun _ z => nomatch z)
  have e : s' = { ({ s1 with heap := h', toks := tk } : Shared) with heap := s'.heap, gens := s'.gens, drawn := s'.drawn, toks := s'.toks } := by
    cases s'
    have o1 : _ = s1.os := o1
    subst o1
    rfl
  rw [e]
  exact ⟨.ref pp, _, J, rfl, q1 pp cs hn hl hmem⟩
end
/-- the signs of a text, each once, in an order -/
@[reducible] def dSortSet (fa : List Sl → W D) : List Sl → W D := fun δ => (fa δ).bind fun x => match x with
  | .str y => W.need (y.cps.size < 60) (W.any 0 fun d => ∃ cs : List Nat, d = .lst (cs.map fun c => .str (sgn c)) ∧ cs.length = (uniq [] y.cps.toList).length ∧ ∀ c, c ∈ cs ↔ c ∈ uniq [] y.cps.toList)
  | _ => W.stuck
theorem rep_signs {K : PySem.W.Frag} {pn : Addr} {F : Hp} : ∀ cs : List Nat, RepL K pn F (cs.map fun c => V.str (sgn c)) (cs.map fun c => D.str (sgn c))
  | [] => .nil
  | c :: r => .cons (.str _) (rep_signs r)
theorem le_sortSet {K : PySem.W.Frag} {ta : TE} {fa : List Sl → W D} (ha : LE K ta fa) : LE K (tSortSet ta) (dSortSet fa) := fun pn H0 F H n σ δ Q o s h => by
  refine ha pn H0 F H n σ δ _ o s ((fa δ).mono (fun m x q => ?_) (fun _ _ z => z) h)
  intro v F1 H1 g1 o1 r1
  cases r1 with
  | str y =>
    obtain ⟨q1, k, rfl, q2⟩ := q
    refine ⟨y, rfl, q1, fun p cs hp hl hm => ?_⟩
    obtain ⟨o2, g2⟩ := o1.lay (o := .lst (cs.map fun c => V.str (sgn c))) hp
    exact q2 _ ⟨cs, rfl, hl, hm⟩ (.ref p) _ _ (g1.trans g2 o2.fpn) o2 (.lst upd_same (rep_signs cs))
  | _ => exact q.elim
end Lx
set_option Elab.async false
set_option linter.all false
set_option maxRecDepth 100000
set_option maxHeartbeats 2000000
/-! Ly1: the second layer: plain data, a store of things that change, exceptions. A mirror is a wp over data and the store. -/
namespace Ly
open PySem L2
open Lx (Le)

inductive D where
  | non | bl (b : Bool) | int (i : Int) | str (x : Str)
  | lst (xs : List D) | tup (xs : List D) | dct (kvs : List (Key × D)) | obj (c : Str) (fs : List (Str × D)) | pen | sct (ns : List Int) | mu (i : Nat) | err (c : Str) (fs : List (Str × D))
/-- a thing that changes -/
inductive MO where
  | lst (xs : List D) | dct (kvs : List (Key × D)) | ins (c : Str) (fs : List (Str × D)) | gone
/-- what a mirror runs over: the draws that are left, the store -/
structure S where
  n : Nat
  st : List MO
/-- an exception as data -/
structure Xn where
  cls : Str
  fs : List (Str × D)

structure W (A : Type) where
  wp : S → (S → A → Prop) → (S → Xn → Prop) → Prop
  mono : ∀ {s : S} {Q R : S → A → Prop} {E G : S → Xn → Prop}, (∀ t a, Q t a → R t a) → (∀ t x, E t x → G t x) → wp s Q E → wp s R G
namespace W
variable {A B : Type}
@[reducible] def ret (a : A) : W A := ⟨fun s Q _ => Q s a, fun h _ p => h _ _ p⟩
@[reducible] def bind (m : W A) (f : A → W B) : W B := ⟨fun s Q E => m.wp s (fun t a => (f a).wp t Q E) E, fun h g p => m.mono (fun _ a q => (f a).mono h g q) g p⟩
@[reducible] def stuck : W A := ⟨fun _ _ _ => False, fun _ _ p => p⟩
@[reducible] def need (c : Prop) (m : W A) : W A := ⟨fun s Q E => c ∧ m.wp s Q E, fun h g p => ⟨p.1, m.mono h g p.2⟩⟩
/-- any a of which P holds, for c draws -/
@[reducible] def any (c : Nat) (P : A → Prop) : W A := ⟨fun s Q _ => ∃ k, s.n = k + c ∧ ∀ a, P a → Q ⟨k, s.st⟩ a, fun h _ ⟨k, e, p⟩ => ⟨k, e, fun a q => h _ _ (p a q)⟩⟩
@[reducible] def raise (x : Xn) : W A := ⟨fun s _ E => E s x, fun _ g p => g _ _ p⟩
@[reducible] def new (o : MO) : W Nat := ⟨fun s Q _ => Q ⟨s.n, s.st ++ [o]⟩ s.st.length, fun h _ p => h _ _ p⟩
@[reducible] def get (i : Nat) : W MO := ⟨fun s Q _ => ∃ o, s.st[i]? = some o ∧ Q s o, fun h _ ⟨o, e, p⟩ => ⟨o, e, h _ _ p⟩⟩
@[reducible] def put (i : Nat) (o : MO) : W Unit := ⟨fun s Q _ => Q ⟨s.n, s.st.set i o⟩ (), fun h _ p => h _ _ p⟩
end W

/-! ### worlds -/
structure Cg where
  pn : Addr
/-- the tables of the code objects of defs that lend names to lambdas, with the lambdas' names -/
def tabOf (K : PySem.W.Frag) : Addr × Obj → Option (Addr × Addr × Str)
  | (_, ⟨_, _, .func fd, _⟩) => if fd.scope.names.any (fun y => decide (y.2 = .cell)) then (match fd.code with
    | .ref c => (match K.lookup c with
      | some ⟨_, _, .fields vs, _⟩ => (match (vs[11]? : Option Value) with
        | some (.ref P) => some (c, P, (PyProof.Rows.envOfC fd.qualname fd.scope 0 0 .none).qual ++ "<lambda>")
        | _ => none)
      | _ => none)
    | _ => none) else none
  | _ => none
def tabs3 (K : PySem.W.Frag) : List (Addr × Addr × Str) := K.filterMap (tabOf K)
def tabsOf (K : PySem.W.Frag) : List (Addr × Str) := (tabs3 K).map (·.2)
structure Wd where
  al : List Addr
  F : Hp
  H : Hp

mutual
inductive Rep (K : PySem.W.Frag) (c : Cg) (al : List Addr) (F : Hp) : V → D → Prop
  | non : Rep K c al F .non .non
  | bl (b : Bool) : Rep K c al F (.bl b) (.bl b)
  | int (i : Int) : Rep K c al F (.int i) (.int i)
  | str (x : Str) : Rep K c al F (.str x) (.str x)
  | lst {a : Addr} {vs : List V} {ds : List D} : F a = some (.lst vs) → RepL K c al F vs ds → Rep K c al F (.ref a) (.lst ds)
  | tup {a : Addr} {vs : List V} {ds : List D} : F a = some (.tup vs) → RepL K c al F vs ds → Rep K c al F (.ref a) (.tup ds)
  | dct {a : Addr} {vs : List (Key × V)} {ds : List (Key × D)} : F a = some (.dK vs) → RepK K c al F vs ds → Rep K c al F (.ref a) (.dct ds)
  | obj {a dx : Addr} {cl : Str} {fs : List (Str × V)} {gs : List (Str × D)} : F a = some (.ins (He.ga K cl) dx fs) → Cls K (He.ga K cl) → (∀ x ∈ gs.map (·.1), NoAttr K (He.ga K cl) x) → RepF K c al F fs gs → Rep K c al F (.ref a) (.obj cl gs)
  | pen : Rep K c al F (.ref c.pn) .pen
  | sct {a : Addr} {ns : List Int} : SqL K F a (ns.map V.int) → Rep K c al F (.ref a) (.sct ns)
  | mu {i : Nat} {a : Addr} : al[i]? = some a → Rep K c al F (.ref a) (.mu i)
  | err {a dx : Addr} {cl : Str} {fs : List (Str × V)} {gs : List (Str × D)} : F a = some (exo a (He.ga K cl) (some dx)) → F dx = some (exd dx fs) → RepF K c al F fs gs → Rep K c al F (.ref a) (.err cl gs)
  | err0 {a : Addr} {cl : Str} : F a = some (exo a (He.ga K cl) none) → Rep K c al F (.ref a) (.err cl [])
inductive RepL (K : PySem.W.Frag) (c : Cg) (al : List Addr) (F : Hp) : List V → List D → Prop
  | nil : RepL K c al F [] []
  | cons {v : V} {vs : List V} {d : D} {ds : List D} : Rep K c al F v d → RepL K c al F vs ds → RepL K c al F (v :: vs) (d :: ds)
inductive RepF (K : PySem.W.Frag) (c : Cg) (al : List Addr) (F : Hp) : List (Str × V) → List (Str × D) → Prop
  | nil : RepF K c al F [] []
  | cons {x : Str} {v : V} {vs : List (Str × V)} {d : D} {ds : List (Str × D)} : Rep K c al F v d → RepF K c al F vs ds → RepF K c al F ((x, v) :: vs) ((x, d) :: ds)
inductive RepK (K : PySem.W.Frag) (c : Cg) (al : List Addr) (F : Hp) : List (Key × V) → List (Key × D) → Prop
  | nil : RepK K c al F [] []
  | cons {x : Key} {v : V} {vs : List (Key × V)} {d : D} {ds : List (Key × D)} : Rep K c al F v d → RepK K c al F vs ds → RepK K c al F ((x, v) :: vs) ((x, d) :: ds)
end

/-- (al, F) lies in (al', F') -/
structure Sub (al : List Addr) (F : Hp) (al' : List Addr) (F' : Hp) : Prop where
  pre : al <+: al'
  le : Le F F'
theorem Sub.refl (al : List Addr) (F : Hp) : Sub al F al F := ⟨List.prefix_refl _, Le.refl F⟩
theorem Sub.trans {al al1 al2 : List Addr} {F F1 F2 : Hp} (a : Sub al F al1 F1) (b : Sub al1 F1 al2 F2) : Sub al F al2 F2 := ⟨a.pre.trans b.pre, a.le.trans b.le⟩
theorem Sub.at {al al1 : List Addr} {F F1 : Hp} (e : Sub al F al1 F1) {i : Nat} {a : Addr} (h : al[i]? = some a) : al1[i]? = some a := by
  obtain ⟨t, ht⟩ := e.pre
  have hl := (List.getElem?_eq_some_iff.mp h).1
  rw [← ht, List.getElem?_append_left hl]; exact h
section
variable {K : PySem.W.Frag} {c : Cg} {al al1 : List Addr} {F G : Hp}
mutual
theorem Rep.up (e : Sub al F al1 G) : ∀ {v : V} {d : D}, Rep K c al F v d → Rep K c al1 G v d
  | _, _, .non => .non
  | _, _, .bl b => .bl b
  | _, _, .int i => .int i
  | _, _, .str x => .str x
  | _, _, .lst h r => .lst (e.le _ _ h) (RepL.up e r)
  | _, _, .tup h r => .tup (e.le _ _ h) (RepL.up e r)
  | _, _, .dct h r => .dct (e.le _ _ h) (RepK.up e r)
  | _, _, .obj h q n r => .obj (e.le _ _ h) q n (RepF.up e r)
  | _, _, .pen => .pen
  | _, _, .sct h => .sct (e.le.sqL h)
  | _, _, .mu h => .mu (e.at h)
  | _, _, .err h k r => .err (e.le _ _ h) (e.le _ _ k) (RepF.up e r)
  | _, _, .err0 h => .err0 (e.le _ _ h)
theorem RepL.up (e : Sub al F al1 G) : ∀ {vs : List V} {ds : List D}, RepL K c al F vs ds → RepL K c al1 G vs ds
  | _, _, .nil => .nil
  | _, _, .cons h r => .cons (Rep.up e h) (RepL.up e r)
theorem RepF.up (e : Sub al F al1 G) : ∀ {vs : List (Str × V)} {ds : List (Str × D)}, RepF K c al F vs ds → RepF K c al1 G vs ds
  | _, _, .nil => .nil
  | _, _, .cons h r => .cons (Rep.up e h) (RepF.up e r)
theorem RepK.up (e : Sub al F al1 G) : ∀ {vs : List (Key × V)} {ds : List (Key × D)}, RepK K c al F vs ds → RepK K c al1 G vs ds
  | _, _, .nil => .nil
  | _, _, .cons h r => .cons (Rep.up e h) (RepK.up e r)
end
theorem RepL.len : ∀ {vs : List V} {ds : List D}, RepL K c al F vs ds → vs.length = ds.length
  | _, _, .nil => rfl
  | _, _, .cons _ r => congrArg (· + 1) r.len
theorem RepF.len : ∀ {vs : List (Str × V)} {ds : List (Str × D)}, RepF K c al F vs ds → vs.length = ds.length
  | _, _, .nil => rfl
  | _, _, .cons _ r => congrArg (· + 1) r.len
theorem RepK.len : ∀ {vs : List (Key × V)} {ds : List (Key × D)}, RepK K c al F vs ds → vs.length = ds.length
  | _, _, .nil => rfl
  | _, _, .cons _ r => congrArg (· + 1) r.len
theorem RepL.get : ∀ {vs : List V} {ds : List D} {i : Nat} {d : D}, RepL K c al F vs ds → ds[i]? = some d → ∃ v, vs[i]? = some v ∧ Rep K c al F v d
  | _, _, _, _, .nil, e => by simp at e
  | _, _, 0, _, .cons h _, e => by simp at e; subst e; exact ⟨_, rfl, h⟩
  | _, _, i + 1, d, .cons _ r, e => by
    obtain ⟨v, h1, h2⟩ := RepL.get (i := i) (d := d) r (by simpa using e)
    exact ⟨v, by simpa using h1, h2⟩
theorem RepL.app : ∀ {vs ws : List V} {ds es : List D}, RepL K c al F vs ds → RepL K c al F ws es → RepL K c al F (vs ++ ws) (ds ++ es)
  | _, _, _, _, .nil, s => s
  | _, _, _, _, .cons h r, s => .cons h (r.app s)
theorem RepL.take : ∀ {vs : List V} {ds : List D} (n : Nat), RepL K c al F vs ds → RepL K c al F (vs.take n) (ds.take n)
  | _, _, 0, _ => .nil
  | _, _, _ + 1, .nil => .nil
  | _, _, n + 1, .cons h r => .cons h (RepL.take n r)
theorem RepL.drop : ∀ {vs : List V} {ds : List D} (n : Nat), RepL K c al F vs ds → RepL K c al F (vs.drop n) (ds.drop n)
  | _, _, 0, r => r
  | _, _, _ + 1, .nil => .nil
  | _, _, n + 1, .cons _ r => RepL.drop n r
theorem RepL.set {v : V} {d : D} (q : Rep K c al F v d) : ∀ {vs : List V} {ds : List D} (n : Nat), RepL K c al F vs ds → RepL K c al F (vs.set n v) (ds.set n d)
  | _, _, _, .nil => .nil
  | _, _, 0, .cons _ r => .cons q r
  | _, _, n + 1, .cons h r => .cons h (RepL.set q n r)
theorem RepF.look : ∀ {vs : List (Str × V)} {ds : List (Str × D)} {x : Str} {d : D}, RepF K c al F vs ds → ds.lookup x = some d → ∃ v, vs.lookup x = some v ∧ Rep K c al F v d
  | _, _, _, _, .nil, e => by simp at e
  | _, _, x, d, .cons (x := y) h r, e => by
    rw [List.lookup_cons] at e ⊢
    cases q : (x == y) with
    | true => rw [q] at e; cases e; exact ⟨_, rfl, h⟩
    | false => rw [q] at e; exact RepF.look r e
theorem RepF.noLook : ∀ {vs : List (Str × V)} {ds : List (Str × D)} {x : Str}, RepF K c al F vs ds → ds.lookup x = none → vs.lookup x = none
  | _, _, _, .nil, _ => rfl
  | _, _, x, .cons (x := y) h r, e => by
    rw [List.lookup_cons] at e ⊢
    cases q : (x == y) with
    | true => rw [q] at e; cases e
    | false => rw [q] at e; exact RepF.noLook r e
theorem RepL.one {vs : List V} {d : D} (r : RepL K c al F vs [d]) : ∃ v, vs = [v] ∧ Rep K c al F v d := by
  cases r with
  | cons a b => cases b; exact ⟨_, rfl, a⟩
theorem RepL.two {vs : List V} {d e : D} (r : RepL K c al F vs [d, e]) : ∃ v w, vs = [v, w] ∧ Rep K c al F v d ∧ Rep K c al F w e := by
  cases r with
  | cons a b => obtain ⟨w, rfl, rw⟩ := b.one; exact ⟨_, w, rfl, a, rw⟩
theorem isE {vs : List V} {ds : List D} (r : RepL K c al F vs ds) : vs.isEmpty = ds.isEmpty := by cases r <;> rfl
end

/-- the pen, with n draws left -/
def PenOk (K : PySem.W.Frag) (c : Cg) (F H : Hp) (n : Nat) : Prop :=
  ∃ (l : Addr) (cs : List Int) (t lf : Int), H c.pn = some (.dK (Lx.penKvs l t lf)) ∧ SqL K F l (cs.map V.int) ∧ cs.length ≤ 63 ∧ 0 ≤ t ∧ t + n ≤ 2 ^ 60 ∧ 0 ≤ lf
/-- the thing at a is o -/
def RepM (K : PySem.W.Frag) (c : Cg) (w : Wd) (a : Addr) : MO → Prop
  | .lst ds => w.F a = none ∧ ∃ vs, w.H a = some (.lst vs) ∧ RepL K c w.al w.F vs ds
  | .dct kvs => w.F a = none ∧ ∃ kws, w.H a = some (.dK kws) ∧ RepK K c w.al w.F kws kvs
  | .ins cl fs => w.F a = none ∧ ∃ dx vs, w.H a = some (.ins (He.ga K cl) dx vs) ∧ Cls K (He.ga K cl) ∧ (∀ x ∈ fs.map (·.1), NoAttr K (He.ga K cl) x) ∧ RepF K c w.al w.F vs fs ∧ fs.length ≤ 900
  | .gone => True
structure Ok (K : PySem.W.Frag) (c : Cg) (w : Wd) (s : S) : Prop where
  fro : Le w.F w.H
  fpn : w.F c.pn = none
  pna : c.pn ∉ w.al
  nd : w.al.Nodup
  len : w.al.length = s.st.length
  occ : ∀ a ∈ w.al, w.H a ≠ none
  pen : PenOk K c w.F w.H s.n
  tab : LamX.Tabs (tabsOf K) w.H
  ftb : ∀ a ps, w.F a ≠ some (.tbl ps)
  atb : ∀ a ∈ w.al, ∀ ps, w.H a ≠ some (.tbl ps)
  aco : ∀ a ∈ w.al, ∀ φ, w.H a ≠ some (.ext φ)
  sto : ∀ (i : Nat) (a : Addr) (o : MO), w.al[i]? = some a → s.st[i]? = some o → RepM K c w a o
/-- nothing stands at a, or a table -/
def Wd.fre (w : Wd) (a : Addr) : Prop := ∀ u, w.H a = some u → ∃ ps, u = .tbl ps
theorem Wd.fre_none {w : Wd} {a : Addr} (h : w.H a = none) : w.fre a := fun u e => by rw [h] at e; cases e
/-- from w on: all but the pen, the store and the tables is kept; F and the store grow by new things alone -/
structure Go (c : Cg) (w w' : Wd) : Prop where
  keep : ∀ a o, a ≠ c.pn → a ∉ w.al → (∀ ps, o ≠ .tbl ps) → w.H a = some o → w'.H a = some o
  sub : Sub w.al w.F w'.al w'.F
  new : ∀ a o, w'.F a = some o → w.F a = none → w.fre a ∨ a ∈ w.al
  newA : ∀ a, a ∈ w'.al → a ∈ w.al ∨ w.fre a
theorem Go.refl (c : Cg) (w : Wd) : Go c w w := ⟨fun _ _ _ _ _ h => h, Sub.refl _ _, fun a o h n => (by rw [n] at h; cases h), fun a h => .inl h⟩
theorem Go.back {c : Cg} {w w' : Wd} (g : Go c w w') {a : Addr} (h : w'.fre a) (np : a ≠ c.pn) : a ∈ w.al ∨ w.fre a := by
  by_cases ha : a ∈ w.al
  · exact .inl ha
  · refine .inr fun u q => ?_
    by_cases ht : ∃ ps, u = .tbl ps
    · exact ht
    · exact h u (g.keep a u np ha (fun ps z => ht ⟨ps, z⟩) q)
theorem Go.trans {K : PySem.W.Frag} {c : Cg} {w w1 w2 : Wd} {s : S} (a : Go c w w1) (b : Go c w1 w2) (o : Ok K c w2 s) : Go c w w2 where
  keep := fun x u np na nt h => b.keep x u np (fun z => (a.newA x z).elim na fun y => let ⟨ps, e⟩ := y u h; nt ps e) nt (a.keep x u np na nt h)
  sub := a.sub.trans b.sub
  new := fun x u h n => by
    have np : x ≠ c.pn := by rintro rfl; rw [o.fpn] at h; cases h
    cases q : w1.F x with
    | some y => exact a.new x y q n
    | none =>
      rcases b.new x u h q with z | z
      · exact (a.back z np).symm
      · exact (a.newA x z).symm
  newA := fun x h => by
    have np : x ≠ c.pn := by rintro rfl; exact o.pna h
    rcases b.newA x h with z | z
    · exact a.newA x z
    · exact a.back z np

/-! ### slots -/
abbrev Sl := Option D
structure Slo (K : PySem.W.Frag) (c : Cg) (w : Wd) (σ : L2.St) (δ : List Sl) : Prop where
  len : σ.length = δ.length
  val : ∀ (i : Nat) (d : D), δ[i]? = some (some d) → ∃ v, σ[i]? = some (some v) ∧ Rep K c w.al w.F v d
theorem Slo.go {K : PySem.W.Frag} {c : Cg} {w w' : Wd} {σ : L2.St} {δ : List Sl} (s : Slo K c w σ δ) (g : Go c w w') : Slo K c w' σ δ :=
  ⟨s.len, fun i d e => let ⟨v, q, r⟩ := s.val i d e; ⟨v, q, r.up g.sub⟩⟩
theorem Slo.sub {K : PySem.W.Frag} {c : Cg} {w w' : Wd} {σ : L2.St} {δ : List Sl} (s : Slo K c w σ δ) (g : Sub w.al w.F w'.al w'.F) : Slo K c w' σ δ :=
  ⟨s.len, fun i d e => let ⟨v, q, r⟩ := s.val i d e; ⟨v, q, r.up g⟩⟩
theorem Slo.set {K : PySem.W.Frag} {c : Cg} {w : Wd} {σ : L2.St} {δ : List Sl} {i : Nat} {v : V} {d : D} (s : Slo K c w σ δ) (r : Rep K c w.al w.F v d) : Slo K c w (σ.set i (some v)) (δ.set i (some d)) := by
  refine ⟨by simpa using s.len, fun j d' e => ?_⟩
  by_cases hj : j = i
  · subst hj
    have hl : j < δ.length := by
      have := (List.getElem?_eq_some_iff.mp e).1
      simpa using this
    rw [List.getElem?_set_self hl] at e
    cases e
    exact ⟨v, List.getElem?_set_self (by rw [s.len]; exact hl), r⟩
  · rw [List.getElem?_set_ne (Ne.symm hj)] at e
    rw [List.getElem?_set_ne (Ne.symm hj)]
    exact s.val j d' e
theorem Slo.forget {K : PySem.W.Frag} {c : Cg} {w : Wd} {σ : L2.St} {δ : List Sl} {i : Nat} {o : Option V} (s : Slo K c w σ δ) : Slo K c w (σ.set i o) (δ.set i none) := by
  refine ⟨by simpa using s.len, fun j d' e => ?_⟩
  by_cases hj : j = i
  · subst hj
    by_cases hl : j < δ.length
    · rw [List.getElem?_set_self hl] at e; cases e
    · rw [List.getElem?_eq_none (by simpa using hl)] at e; cases e
  · rw [List.getElem?_set_ne (Ne.symm hj)] at e
    rw [List.getElem?_set_ne (Ne.symm hj)]
    exact s.val j d' e

/-! ### what a mirror says at a world -/
def Den (K : PySem.W.Frag) (c : Cg) {A : Type} (m : W A) (w : Wd) (s : S) (Q : A → Wd → S → Prop) (E : Xn → Wd → S → Prop) : Prop :=
  m.wp s (fun t a => ∀ w', Go c w w' → Ok K c w' t → Q a w' t) (fun t x => ∀ w', Go c w w' → Ok K c w' t → E x w' t)
section
variable {K : PySem.W.Frag} {c : Cg} {A B : Type} {w : Wd} {s : S} {m : W A} {f : A → W B} {a : A} {Q R : A → Wd → S → Prop} {QB : B → Wd → S → Prop} {E G : Xn → Wd → S → Prop} {p : Prop}
theorem Den.mono (h : Den K c m w s Q E) (q : ∀ a w' t, Go c w w' → Ok K c w' t → Q a w' t → R a w' t) : Den K c m w s R E := m.mono (fun t a z w' g o => q a w' t g o (z w' g o)) (fun _ _ z => z) h
theorem Den.ret (h : Den K c (W.ret a) w s Q E) (o : Ok K c w s) : Q a w s := h w (Go.refl ..) o
theorem Den.need (h : Den K c (W.need p m) w s Q E) : p ∧ Den K c m w s Q E := h
theorem Den.bind (h : Den K c (m.bind f) w s QB E) : Den K c m w s (fun a w1 s1 => Den K c (f a) w1 s1 QB E) E :=
  m.mono (fun t a z w1 g1 o1 => (f a).mono (fun t2 b y w2 g2 o2 => y w2 (g1.trans g2 o2) o2) (fun t2 x y w2 g2 o2 => y w2 (g1.trans g2 o2) o2) z) (fun _ _ z => z) h
theorem Den.stuck (h : Den K c (W.stuck : W A) w s Q E) : p := h.elim
/-- from a later world on -/
theorem Den.on {w0 : Wd} {s0 : S} (h : m.wp s (fun t a => ∀ w', Go c w0 w' → Ok K c w' t → Q a w' t) (fun t x => ∀ w', Go c w0 w' → Ok K c w' t → E x w' t)) (g : Go c w0 w) : Den K c m w s Q E :=
  m.mono (fun t a z w' g' o' => z w' (g.trans g' o') o') (fun t x z w' g' o' => z w' (g.trans g' o') o') h
end
/-- an exception in the air -/
def RepX (K : PySem.W.Frag) (c : Cg) (w : Wd) (cls : Value) (d : Option Addr) (x : Xn) : Prop :=
  cls = .ref (He.ga K x.cls) ∧ ∃ dx fs, d = some dx ∧ w.H dx = some (.xd fs) ∧ RepF K c w.al w.F fs x.fs
abbrev xE (K : PySem.W.Frag) (c : Cg) (E : XK) : Xn → Wd → S → Prop := fun x w' _ => ∀ cls d, RepX K c w' cls d x → E cls d w'.H
abbrev qV (K : PySem.W.Frag) (c : Cg) (Q : VK) : D → Wd → S → Prop := fun d w' _ => ∀ v, Rep K c w'.al w'.F v d → Q v w'.H

def LE (K : PySem.W.Frag) (te : XK → TE) (f : List Sl → W D) : Prop := ∀ (c : Cg) (w : Wd) (s : S) (σ : L2.St) (δ : List Sl) (Q : VK) (E : XK), Ok K c w s → Slo K c w σ δ → Den K c (f δ) w s (qV K c Q) (xE K c E) → te E σ w.H Q
def LT (K : PySem.W.Frag) (tt : XK → TT) (f : List Sl → W Bool) : Prop := ∀ (c : Cg) (w : Wd) (s : S) (σ : L2.St) (δ : List Sl) (Q : Bool → Hp → Prop) (E : XK), Ok K c w s → Slo K c w σ δ → Den K c (f δ) w s (fun b w' _ => Q b w'.H) (xE K c E) → tt E σ w.H Q
def LA (K : PySem.W.Frag) (ta : XK → TA) (f : List Sl → W (List D)) : Prop := ∀ (c : Cg) (w : Wd) (s : S) (σ : L2.St) (δ : List Sl) (Q : List V → Hp → Prop) (E : XK), Ok K c w s → Slo K c w σ δ →
  Den K c (f δ) w s (fun ds w' _ => ∀ vs, RepL K c w'.al w'.F vs ds → Q vs w'.H) (xE K c E) → ta E σ w.H Q
/-- operations: they raise nothing -/
def LO2 (K : PySem.W.Frag) (r : R2) (g : D → D → W D) : Prop := ∀ (c : Cg) (w : Wd) (s : S) (v u : V) (x y : D) (Q : VK) (E : Xn → Wd → S → Prop), Ok K c w s → Rep K c w.al w.F v x → Rep K c w.al w.F u y → Den K c (g x y) w s (qV K c Q) E → r v u w.H Q
def LO1 (K : PySem.W.Frag) (r : V → Hp → VK → Prop) (g : D → W D) : Prop := ∀ (c : Cg) (w : Wd) (s : S) (v : V) (x : D) (Q : VK) (E : Xn → Wd → S → Prop), Ok K c w s → Rep K c w.al w.F v x → Den K c (g x) w s (qV K c Q) E → r v w.H Q
def LOn (K : PySem.W.Frag) (r : List V → Hp → VK → Prop) (g : List D → W D) : Prop := ∀ (c : Cg) (w : Wd) (s : S) (vs : List V) (xs : List D) (Q : VK) (E : Xn → Wd → S → Prop), Ok K c w s → RepL K c w.al w.F vs xs → Den K c (g xs) w s (qV K c Q) E → r vs w.H Q

/-! ### a new thing, frozen at once -/
theorem Ok.ne {K : PySem.W.Frag} {c : Cg} {w : Wd} {s : S} {p : Addr} (o : Ok K c w s) (h : w.H p = none) : p ≠ c.pn := by
  rintro rfl
  obtain ⟨_, _, _, _, e, _⟩ := o.pen
  rw [h] at e; cases e
theorem Ok.free {K : PySem.W.Frag} {c : Cg} {w : Wd} {s : S} {p : Addr} (o : Ok K c w s) (h : w.H p = none) : w.F p = none := by
  cases e : w.F p with
  | none => rfl
  | some u => rw [o.fro _ _ e] at h; cases h
theorem Ok.out {K : PySem.W.Frag} {c : Cg} {w : Wd} {s : S} {p : Addr} (o : Ok K c w s) (h : w.H p = none) : p ∉ w.al := fun z => o.occ p z h
theorem RepM.of {K : PySem.W.Frag} {c : Cg} {w w' : Wd} {a : Addr} {o : MO} (r : RepM K c w a o) (e : Sub w.al w.F w'.al w'.F) (hH : w'.H a = w.H a) (hF : w.F a = none → w'.F a = none) : RepM K c w' a o := by
  cases o with
  | lst ds => obtain ⟨h0, vs, h1, h2⟩ := r; exact ⟨hF h0, vs, hH.trans h1, h2.up e⟩
  | dct kvs => obtain ⟨h0, vs, h1, h2⟩ := r; exact ⟨hF h0, vs, hH.trans h1, h2.up e⟩
  | ins cl fs => obtain ⟨h0, dx, vs, h1, h2, h3, h4, h5⟩ := r; exact ⟨hF h0, dx, vs, hH.trans h1, h2, h3, h4.up e, h5⟩
  | gone => trivial
theorem PenOk.of {K : PySem.W.Frag} {c : Cg} {F H F' H' : Hp} {n : Nat} (p : PenOk K c F H n) (e : Le F F') (h : H' c.pn = H c.pn) : PenOk K c F' H' n := by
  obtain ⟨l, cs, t, lf, h1, h2, r⟩ := p
  exact ⟨l, cs, t, lf, h.trans h1, e.sqL h2, r⟩
@[reducible] def Wd.lay (w : Wd) (p : Addr) (o : HO) : Wd := ⟨w.al, upd w.F p o, upd w.H p o⟩
theorem Ok.lay {K : PySem.W.Frag} {c : Cg} {w : Wd} {s : S} {p : Addr} {o : HO} (k : Ok K c w s) (h : w.H p = none) (nt : ∀ ps, o ≠ .tbl ps) : Ok K c (w.lay p o) s ∧ Go c w (w.lay p o) := by
  have hp := k.ne h
  have hF := k.free h
  have ha := k.out h
  have nh : ∀ {a : Addr} {u : HO}, w.H a = some u → a ≠ p := fun e => ne_of_none e h
  have sb : Sub w.al w.F w.al (upd w.F p o) := ⟨List.prefix_refl _, Le.up hF⟩
  have na : ∀ a ∈ w.al, a ≠ p := fun a z e => ha (e ▸ z)
  refine ⟨⟨fun a u e => ?_, ?_, k.pna, k.nd, k.len, fun a z => ?_, k.pen.of (Le.up hF) (upd_ne hp.symm), k.tab.ext fun b u e => ?_, fun a ps => ?_, fun a z ps => ?_, fun a z φ => ?_, fun i a u e1 e2 => ?_⟩, fun a u _ _ _ e => ?_, sb, fun a u e n => ?_, fun a z => .inl z⟩
  · show upd w.H p o a = some u
    have e : upd w.F p o a = some u := e
    by_cases e2 : a = p
    · subst e2; rw [upd_same] at e ⊢; exact e
    · rw [upd_ne e2] at e ⊢; exact k.fro a u e
  · show upd w.F p o c.pn = none
    rw [upd_ne hp.symm]; exact k.fpn
  · show upd w.H p o a ≠ none
    rw [upd_ne (na a z)]; exact k.occ a z
  · show upd w.H p o b = some u
    rw [upd_ne (nh e)]; exact e
  · show upd w.F p o a ≠ some (.tbl ps)
    by_cases e2 : a = p
    · subst e2; rw [upd_same]; exact fun z => nt ps (Option.some.inj z)
    · rw [upd_ne e2]; exact k.ftb a ps
  · show upd w.H p o a ≠ some (.tbl ps)
    rw [upd_ne (na a z)]; exact k.atb a z ps
  · show upd w.H p o a ≠ some (.ext φ)
    rw [upd_ne (na a z)]; exact k.aco a z φ
  · have hm := List.mem_of_getElem? e1
    exact (k.sto i a u e1 e2).of sb (upd_ne (na a hm)) fun z => by show upd w.F p o a = none; rw [upd_ne (na a hm)]; exact z
  · show upd w.H p o a = some u
    rw [upd_ne (nh e)]; exact e
  · have e : upd w.F p o a = some u := e
    by_cases e2 : a = p
    · subst e2; exact .inl (Wd.fre_none h)
    · rw [upd_ne e2, n] at e; cases e

/-! ### expressions -/
@[reducible] def dVar (i : Nat) : List Sl → W D := fun δ => match δ[i]? with
  | some (some d) => W.ret d
  | _ => W.stuck
@[reducible] def dC (d : D) : List Sl → W D := fun _ => W.ret d
@[reducible] def dOp2 (g : D → D → W D) (fa fb : List Sl → W D) : List Sl → W D := fun δ => (fa δ).bind fun x => (fb δ).bind fun y => g x y
@[reducible] def dOp1 (g : D → W D) (fa : List Sl → W D) : List Sl → W D := fun δ => (fa δ).bind g
@[reducible] def dOpn (g : List D → W D) (fa : List Sl → W (List D)) : List Sl → W D := fun δ => (fa δ).bind g
@[reducible] def dNil : List Sl → W (List D) := fun _ => W.ret []
@[reducible] def dCons (fa : List Sl → W D) (fr : List Sl → W (List D)) : List Sl → W (List D) := fun δ => (fa δ).bind fun x => (fr δ).bind fun xs => W.ret (x :: xs)
section
variable {K : PySem.W.Frag} {ta tb : XK → TE} {fa fb : List Sl → W D}
theorem le_var {i : Nat} : LE K (fun _ => tVar i) (dVar i) := fun c w s σ δ Q E o sl h => by
  unfold dVar at h
  cases e : δ[i]? with
  | none => rw [e] at h; exact h.elim
  | some x =>
    rw [e] at h
    cases x with
    | none => exact h.elim
    | some d =>
      obtain ⟨v, q, r⟩ := sl.val i d e
      exact ⟨v, q, h.ret o v r⟩
theorem le_c {v : V} {d : D} (h : ∀ c al F, Rep K c al F v d) : LE K (fun _ => tC v) (dC d) := fun c w s σ δ Q E o sl q => q.ret o v (h c _ _)
theorem le_int {i : Int} : LE K (fun _ => tC (.int i)) (dC (.int i)) := le_c fun _ _ _ => .int i
theorem le_str {x : Str} : LE K (fun _ => tC (.str x)) (dC (.str x)) := le_c fun _ _ _ => .str x
theorem le_bl {b : Bool} : LE K (fun _ => tC (.bl b)) (dC (.bl b)) := le_c fun _ _ _ => .bl b
theorem le_non : LE K (fun _ => tC .non) (dC .non) := le_c fun _ _ _ => .non
theorem le_op2 {r : R2} {g : D → D → W D} (hr : LO2 K r g) (ha : LE K ta fa) (hb : LE K tb fb) : LE K (fun E => tOp r (ta E) (tb E)) (dOp2 g fa fb) := fun c w s σ δ Q E o sl h =>
  ha c w s σ δ _ E o sl (h.bind.mono fun x w1 s1 g1 o1 q v r1 => hb c w1 s1 σ δ _ E o1 (sl.go g1) (q.bind.mono fun y w2 s2 g2 o2 q2 u r2 => hr c w2 s2 v u x y Q _ o2 (r1.up g2.sub) r2 q2))
theorem le_op1 {r : V → Hp → VK → Prop} {g : D → W D} (hr : LO1 K r g) (ha : LE K ta fa) : LE K (fun E => tUn r (ta E)) (dOp1 g fa) := fun c w s σ δ Q E o sl h =>
  ha c w s σ δ _ E o sl (h.bind.mono fun x w1 s1 g1 o1 q v r1 => hr c w1 s1 v x Q _ o1 r1 q)
theorem la_nil : LA K (fun _ => tNil) dNil := fun c w s σ δ Q E o sl h => h.ret o [] .nil
theorem la_cons {tr : XK → TA} {fr : List Sl → W (List D)} (ha : LE K ta fa) (hr : LA K tr fr) : LA K (fun E => tCons (ta E) (tr E)) (dCons fa fr) := fun c w s σ δ Q E o sl h =>
  ha c w s σ δ _ E o sl (h.bind.mono fun x w1 s1 g1 o1 q v r1 => hr c w1 s1 σ δ _ E o1 (sl.go g1) (q.bind.mono fun ys w2 s2 g2 o2 q2 us r2 => q2.ret o2 (v :: us) (.cons (r1.up g2.sub) r2)))
theorem le_opn {t : XK → TA} {f : List Sl → W (List D)} {r : List V → Hp → VK → Prop} {g : List D → W D} (hr : LOn K r g) (ha : LA K t f) : LE K (fun E => tCB r (t E)) (dOpn g f) := fun c w s σ δ Q E o sl h =>
  ha c w s σ δ _ E o sl (h.bind.mono fun x w1 s1 g1 o1 q vs r1 => hr c w1 s1 vs x Q _ o1 r1 q)
/-! displays -/
@[reducible] def dTup (f : List Sl → W (List D)) : List Sl → W D := fun δ => (f δ).bind fun xs => W.need (xs.length ≤ sizeLine) (W.ret (.tup xs))
@[reducible] def dLst (f : List Sl → W (List D)) : List Sl → W D := fun δ => (f δ).bind fun xs => W.need (xs.length ≤ sizeLine) (W.ret (.lst xs))
theorem le_tup {t : XK → TA} {f : List Sl → W (List D)} (ha : LA K t f) : LE K (fun E => tTup (t E)) (dTup f) := fun c w s σ δ Q E o sl h =>
  ha c w s σ δ _ E o sl (h.bind.mono fun xs w1 s1 g1 o1 q vs r1 => ⟨by rw [r1.len]; exact q.1, fun p hp => by
    obtain ⟨o2, g2⟩ := o1.lay (o := .tup vs) hp (fun _ z => by cases z)
    exact q.2 _ g2 o2 (.ref p) (.tup upd_same (r1.up g2.sub))⟩)
theorem le_lst {t : XK → TA} {f : List Sl → W (List D)} (ha : LA K t f) : LE K (fun E => tLst (t E)) (dLst f) := fun c w s σ δ Q E o sl h =>
  ha c w s σ δ _ E o sl (h.bind.mono fun xs w1 s1 g1 o1 q vs r1 => ⟨by rw [r1.len]; exact q.1, fun p hp => by
    obtain ⟨o2, g2⟩ := o1.lay (o := .lst vs) hp (fun _ z => by cases z)
    exact q.2 _ g2 o2 (.ref p) (.lst upd_same (r1.up g2.sub))⟩)
end
end Ly
set_option Elab.async false
set_option linter.all false
set_option maxRecDepth 100000
set_option maxHeartbeats 2000000
/-! Ly2: tests, targets, statements, loops. -/
namespace Ly
open PySem L2
open Lx (Le)

/-- what raises nothing -/
@[reducible] def W.calm {A : Type} (m : W A) : W A := ⟨fun s Q _ => m.wp s Q fun _ _ => False, fun h _ p => m.mono h (fun _ _ z => z) p⟩
theorem Den.calm {K : PySem.W.Frag} {c : Cg} {A : Type} {m : W A} {w : Wd} {s : S} {Q : A → Wd → S → Prop} {E G : Xn → Wd → S → Prop} (h : Den K c m.calm w s Q E) : Den K c m w s Q G := m.mono (fun _ _ z => z) (fun _ _ z => z.elim) h
/-- relative to a world that was: what is wanted in the end -/
abbrev Rel (K : PySem.W.Frag) (c : Cg) {A : Type} (w0 : Wd) (Q : A → Wd → S → Prop) : S → A → Prop := fun t a => ∀ w', Go c w0 w' → Ok K c w' t → Q a w' t
theorem Den.raw {K : PySem.W.Frag} {c : Cg} {A B : Type} {m : W A} {f : A → W B} {w0 w : Wd} {s : S} {Q : B → Wd → S → Prop} {E : Xn → Wd → S → Prop} (h : (m.bind f).wp s (Rel K c w0 Q) (Rel K c w0 E)) (g : Go c w0 w) :
    Den K c m w s (fun a _ t => (f a).wp t (Rel K c w0 Q) (Rel K c w0 E)) E := m.mono (fun t a z w' g' o' => z) (fun t x z w' g' o' => z w' (g.trans g' o') o') h

/-! ### tests -/
@[reducible] def truD : D → W Bool
  | .non => W.ret false
  | .bl b => W.ret b
  | .int i => W.ret (i != 0)
  | .str y => W.need (y.length ≤ sizeLine) (W.ret ((y.length : Int) != 0))
  | .lst xs => W.ret (!xs.isEmpty)
  | .tup xs => W.ret (!xs.isEmpty)
  | _ => W.stuck
@[reducible] def blD : D → W Bool
  | .bl b => W.ret b
  | _ => W.stuck
section
variable {K : PySem.W.Frag} {ta tb : XK → TE} {fa fb : List Sl → W D} {tt tu : XK → TT} {ft fu : List Sl → W Bool}
theorem truV_of {c : Cg} {w : Wd} {s : S} {v : V} {d : D} {A : Type} {f : Bool → W A} {Q : A → Wd → S → Prop} {E : Xn → Wd → S → Prop} (o : Ok K c w s) (r : Rep K c w.al w.F v d) (h : Den K c ((truD d).bind f) w s Q E) : ∃ k, TruV K v w.H k ∧ Den K c (f k) w s Q E := by
  cases r with
  | non => exact ⟨_, rfl, h⟩
  | bl b => exact ⟨_, rfl, h⟩
  | int i => exact ⟨_, rfl, h⟩
  | str x => exact ⟨_, ⟨h.1, rfl⟩, h.2⟩
  | lst a b => exact ⟨_, .inl ⟨_, SqL.of (o.fro _ _ a), rfl⟩, by rw [isE b]; exact h⟩
  | tup a b => exact ⟨_, .inr (.inl ⟨_, SqT.of (o.fro _ _ a), rfl⟩), by rw [isE b]; exact h⟩
  | dct a b => exact h.elim
  | obj a _ _ b => exact h.elim
  | pen => exact h.elim
  | sct a => exact h.elim
  | mu a => exact h.elim
  | err _ _ _ => exact h.elim
  | err0 _ => exact h.elim
@[reducible] def dTru (fa : List Sl → W D) : List Sl → W Bool := fun δ => (fa δ).bind fun x => (truD x).bind W.ret
@[reducible] def dTest (fa : List Sl → W D) : List Sl → W Bool := fun δ => (fa δ).bind blD
@[reducible] def dAnd (a b : List Sl → W Bool) : List Sl → W Bool := fun δ => (a δ).bind fun k => match k with | true => b δ | false => W.ret false
@[reducible] def dOr (a b : List Sl → W Bool) : List Sl → W Bool := fun δ => (a δ).bind fun k => match k with | true => W.ret true | false => b δ
@[reducible] def dNot (a : List Sl → W Bool) : List Sl → W Bool := fun δ => (a δ).bind fun k => W.ret (!k)
theorem lt_tru (ha : LE K ta fa) : LT K (fun E σ H Q => ta E σ H fun x H1 => ∃ k, TruV K x H1 k ∧ Q k H1) (dTru fa) := fun c w s σ δ Q E o sl h =>
  ha c w s σ δ _ E o sl (h.bind.mono fun x w1 s1 g1 o1 q v r1 => let ⟨k, t, q⟩ := truV_of o1 r1 q; ⟨k, t, q.ret o1⟩)
theorem lt_test (ha : LE K ta fa) : LT K (fun E => tTest (ta E)) (dTest fa) := fun c w s σ δ Q E o sl h =>
  ha c w s σ δ _ E o sl (h.bind.mono fun x w1 s1 g1 o1 q v r1 => by
    cases r1 with
    | bl b => exact ⟨b, rfl, q.ret o1⟩
    | _ => exact q.elim)
theorem lt_and (ha : LT K tt ft) (hb : LT K tu fu) : LT K (fun E => tAnd (tt E) (tu E)) (dAnd ft fu) := fun c w s σ δ Q E o sl h =>
  ha c w s σ δ _ E o sl (h.bind.mono fun k w1 s1 g1 o1 q => by
    cases k with
    | false => exact iteF (q.ret o1)
    | true => exact iteT (hb c w1 s1 σ δ _ E o1 (sl.go g1) q))
theorem lt_or (ha : LT K tt ft) (hb : LT K tu fu) : LT K (fun E => tOr (tt E) (tu E)) (dOr ft fu) := fun c w s σ δ Q E o sl h =>
  ha c w s σ δ _ E o sl (h.bind.mono fun k w1 s1 g1 o1 q => by
    cases k with
    | true => exact iteT (q.ret o1)
    | false => exact iteF (hb c w1 s1 σ δ _ E o1 (sl.go g1) q))
theorem lt_not (ha : LT K tt ft) : LT K (fun E => tNot (tt E)) (dNot ft) := fun c w s σ δ Q E o sl h =>
  ha c w s σ δ _ E o sl (h.bind.mono fun k w1 s1 g1 o1 q => q.ret o1)
/-! values by truth -/
@[reducible] def dAndV (fa fb : List Sl → W D) : List Sl → W D := fun δ => (fa δ).bind fun x => (truD x).bind fun k => match k with | true => fb δ | false => W.ret x
@[reducible] def dOrV (fa fb : List Sl → W D) : List Sl → W D := fun δ => (fa δ).bind fun x => (truD x).bind fun k => match k with | true => W.ret x | false => fb δ
@[reducible] def dNotV (fa : List Sl → W D) : List Sl → W D := fun δ => (fa δ).bind fun x => (truD x).bind fun k => W.ret (.bl (!k))
@[reducible] def dIfE (ft : List Sl → W Bool) (fa fb : List Sl → W D) : List Sl → W D := fun δ => (ft δ).bind fun k => match k with | true => fa δ | false => fb δ
theorem le_and (ha : LE K ta fa) (hb : LE K tb fb) : LE K (fun E => tAndT K (ta E) (tb E)) (dAndV fa fb) := fun c w s σ δ Q E o sl h =>
  ha c w s σ δ _ E o sl (h.bind.mono fun x w1 s1 g1 o1 q v r1 => by
    obtain ⟨k, t, q⟩ := truV_of o1 r1 q
    refine ⟨k, t, ?_⟩
    cases k with
    | true => exact iteT (hb c w1 s1 σ δ _ E o1 (sl.go g1) q)
    | false => exact iteF (q.ret o1 v r1))
theorem le_or (ha : LE K ta fa) (hb : LE K tb fb) : LE K (fun E => tOrT K (ta E) (tb E)) (dOrV fa fb) := fun c w s σ δ Q E o sl h =>
  ha c w s σ δ _ E o sl (h.bind.mono fun x w1 s1 g1 o1 q v r1 => by
    obtain ⟨k, t, q⟩ := truV_of o1 r1 q
    refine ⟨k, t, ?_⟩
    cases k with
    | false => exact iteF (hb c w1 s1 σ δ _ E o1 (sl.go g1) q)
    | true => exact iteT (q.ret o1 v r1))
theorem le_notT (ha : LE K ta fa) : LE K (fun E => tNotT K (ta E)) (dNotV fa) := fun c w s σ δ Q E o sl h =>
  ha c w s σ δ _ E o sl (h.bind.mono fun x w1 s1 g1 o1 q v r1 => by
    obtain ⟨k, t, q⟩ := truV_of o1 r1 q
    exact ⟨k, t, q.ret o1 _ (.bl _)⟩)
theorem le_if (ht : LT K tt ft) (ha : LE K ta fa) (hb : LE K tb fb) : LE K (fun E => tIf (tt E) (ta E) (tb E)) (dIfE ft fa fb) := fun c w s σ δ Q E o sl h =>
  ht c w s σ δ _ E o sl (h.bind.mono fun k w1 s1 g1 o1 q => by
    cases k with
    | true => exact iteT (ha c w1 s1 σ δ _ E o1 (sl.go g1) q)
    | false => exact iteF (hb c w1 s1 σ δ _ E o1 (sl.go g1) q))
/-- a op b op c -/
@[reducible] def dChain (g g2 : D → D → W D) (fa fb fc : List Sl → W D) : List Sl → W D := fun δ => (fa δ).bind fun x => (fb δ).bind fun y => (g x y).bind fun z => (blD z).bind fun k =>
  match k with | true => (fc δ).bind fun u => g2 y u | false => W.ret (.bl false)
theorem le_chain {r r2 : R2} {g g2 : D → D → W D} {tc : XK → TE} {fc : List Sl → W D} (hr : LO2 K r g) (hr2 : LO2 K r2 g2) (ha : LE K ta fa) (hb : LE K tb fb) (hc : LE K tc fc) : LE K (fun E => tChain r r2 (ta E) (tb E) (tc E)) (dChain g g2 fa fb fc) := fun c w s σ δ Q E o sl h =>
  ha c w s σ δ _ E o sl (h.bind.mono fun x w1 s1 g1 o1 q v r1 => hb c w1 s1 σ δ _ E o1 (sl.go g1) (q.bind.mono fun y w2 s2 k2 o2 q2 u r22 => hr c w2 s2 v u x y _ (xE K c E) o2 (r1.up k2.sub) r22 (q2.bind.mono fun z w3 s3 k3 o3 q3 zv r3 => by
    have g3 := (g1.trans k2 o2).trans k3 o3
    cases r3 with
    | bl b =>
      refine ⟨b, rfl, ?_⟩
      cases b with
      | false => exact iteF (q3.ret o3 _ (.bl _))
      | true => exact iteT (hc c w3 s3 σ δ _ E o3 (sl.go g3) ((show Den K c ((fc δ).bind fun u => g2 y u) w3 s3 (qV K c Q) (xE K c E) from q3).bind.mono fun u4 w4 s4 k4 o4 q4 uv r4 => hr2 c w4 s4 u uv y u4 Q _ o4 ((r22.up k3.sub).up k4.sub) r4 q4))
    | _ => exact q3.elim)))
end

/-! ### targets -/
def LG (K : PySem.W.Frag) (vs : List Nat) (g : TG) (dg : D → List Sl → W (List Sl)) : Prop := ∀ (c : Cg) (w : Wd) (s : S) (σ : L2.St) (δ : List Sl) (v : V) (d : D) (Q : L2.St → Hp → Prop) (E : Xn → Wd → S → Prop), Ok K c w s → Slo K c w σ δ → Rep K c w.al w.F v d →
  Den K c (dg d δ) w s (fun ε w' _ => ∀ σ1, Slo K c w' σ1 ε → (∀ j : Nat, j ∉ vs → σ1[j]? = σ[j]?) → σ1.length = σ.length → Q σ1 w'.H) E → g v σ w.H Q
@[reducible] def dName (i : Nat) : D → List Sl → W (List Sl) := fun d δ => W.ret (δ.set i (some d))
theorem lg_name {K : PySem.W.Frag} {i : Nat} : LG K [i] (gName i) (dName i) := fun c w s σ δ v d Q E o sl r h =>
  h.ret o _ (sl.set r) (fun j hj => List.getElem?_set_ne (by simpa using fun e => hj (by simp [e]))) (by simp)
def LGs (K : PySem.W.Frag) (vs : List Nat) (g : TGs) (dg : List D → List Sl → W (List Sl)) : Prop := ∀ (c : Cg) (w : Wd) (s : S) (σ : L2.St) (δ : List Sl) (us : List V) (ds : List D) (Q : L2.St → Hp → Prop) (E : Xn → Wd → S → Prop), Ok K c w s → Slo K c w σ δ → RepL K c w.al w.F us ds →
  Den K c (dg ds δ) w s (fun ε w' _ => ∀ σ1, Slo K c w' σ1 ε → (∀ j : Nat, j ∉ vs → σ1[j]? = σ[j]?) → σ1.length = σ.length → Q σ1 w'.H) E → g us σ w.H Q
@[reducible] def dGNil : List D → List Sl → W (List Sl) := fun ds δ => match ds with | [] => W.ret δ | _ => W.stuck
@[reducible] def dGCons (a : D → List Sl → W (List Sl)) (b : List D → List Sl → W (List Sl)) : List D → List Sl → W (List Sl) := fun ds δ => match ds with | d :: r => (a d δ).bind fun ε => b r ε | _ => W.stuck
@[reducible] def dGTup (n : Nat) (b : List D → List Sl → W (List Sl)) : D → List Sl → W (List Sl) := fun d δ => match d with | .tup ds => W.need (ds.length = n) (b ds δ) | _ => W.stuck
@[reducible] def dGLst (n : Nat) (b : List D → List Sl → W (List Sl)) : D → List Sl → W (List Sl) := fun d δ => match d with | .lst ds => W.need (ds.length = n) (b ds δ) | _ => W.stuck
section
variable {K : PySem.W.Frag} {vs us : List Nat}
theorem lgs_nil : LGs K [] gNil dGNil := fun c w s σ δ ws ds Q E o sl r h => by
  cases r with
  | nil => exact ⟨rfl, h.ret o _ sl (fun _ _ => rfl) rfl⟩
  | cons _ _ => exact h.elim
theorem lgs_cons {t : TG} {u : TGs} {a : D → List Sl → W (List Sl)} {b : List D → List Sl → W (List Sl)} (ha : LG K vs t a) (hb : LGs K us u b) : LGs K (vs ++ us) (gCons t u) (dGCons a b) := fun c w s σ δ ws ds Q E o sl r h => by
  cases r with
  | nil => exact h.elim
  | @cons v ws d ds rv rr =>
    refine ⟨v, ws, rfl, ha c w s σ δ v d _ E o sl rv ((show Den K c ((a d δ).bind fun ε => b ds ε) w s _ E from h).bind.mono fun ε w1 s1 g1 o1 q σ1 s1' e1 l1 => ?_)⟩
    exact hb c w1 s1 σ1 ε ws ds _ E o1 s1' (rr.up g1.sub) (q.mono fun ε2 w2 s2 g2 o2 q2 σ2 s2' e2 l2 => q2 σ2 s2' (fun j hj => (e2 j fun z => hj (List.mem_append_right _ z)).trans (e1 j fun z => hj (List.mem_append_left _ z))) (l2.trans l1))
theorem lg_tup {k : Nat} {t : TGs} {b : List D → List Sl → W (List Sl)} (hb : LGs K vs t b) : LG K vs (gTup K k t) (dGTup k b) := fun c w s σ δ v d Q E o sl r h => by
  cases r with
  | tup a r => exact ⟨_, _, rfl, SqT.of (o.fro _ _ a), (r.len.trans h.1), hb c w s σ δ _ _ Q E o sl r h.2⟩
  | _ => exact h.elim
theorem lg_lst {k : Nat} {t : TGs} {b : List D → List Sl → W (List Sl)} (hb : LGs K vs t b) : LG K vs (gLst K k t) (dGLst k b) := fun c w s σ δ v d Q E o sl r h => by
  cases r with
  | lst a r => exact ⟨_, _, rfl, SqL.of (o.fro _ _ a), (r.len.trans h.1), hb c w s σ δ _ _ Q E o sl r h.2⟩
  | _ => exact h.elim
end

/-! ### statements -/
inductive Out where
  | nx (δ : List Sl) | rt (d : D) | bk (δ : List Sl) | ct (δ : List Sl)
@[reducible] def qS (K : PySem.W.Frag) (c : Cg) (D : Ends) : Out → Wd → S → Prop := fun o w' _ => match o with
  | .nx δ => ∀ σ, Slo K c w' σ δ → D.nx σ w'.H
  | .rt d => ∀ v, Rep K c w'.al w'.F v d → D.rt v w'.H
  | .bk δ => ∀ σ, Slo K c w' σ δ → D.bk σ w'.H
  | .ct δ => ∀ σ, Slo K c w' σ δ → D.ct σ w'.H
def LS (K : PySem.W.Frag) (ts : XK → TS) (g : List Sl → W Out) : Prop := ∀ (c : Cg) (w : Wd) (s : S) (σ : L2.St) (δ : List Sl) (D : Ends) (E : XK), Ok K c w s → Slo K c w σ δ → Den K c (g δ) w s (qS K c D) (xE K c E) → ts E D σ w.H
@[reducible] def dSeq (g h : List Sl → W Out) : List Sl → W Out := fun δ => (g δ).bind fun o => match o with | .nx ε => h ε | o => W.ret o
@[reducible] def dNext : List Sl → W Out := fun δ => W.ret (.nx δ)
@[reducible] def dAsg (f : List Sl → W D) (dg : D → List Sl → W (List Sl)) : List Sl → W Out := fun δ => (f δ).bind fun d => (dg d δ).bind fun ε => W.ret (.nx ε)
@[reducible] def dDrop (f : List Sl → W D) : List Sl → W Out := fun δ => (f δ).bind fun _ => W.ret (.nx δ)
@[reducible] def dRet (f : List Sl → W D) : List Sl → W Out := fun δ => (f δ).bind fun d => W.ret (.rt d)
@[reducible] def dRetN : List Sl → W Out := fun _ => W.ret (.rt .non)
@[reducible] def dIf (t : List Sl → W Bool) (a b : List Sl → W Out) : List Sl → W Out := fun δ => (t δ).bind fun k => match k with | true => a δ | false => b δ
@[reducible] def dBrk : List Sl → W Out := fun δ => W.ret (.bk δ)
@[reducible] def dCnt : List Sl → W Out := fun δ => W.ret (.ct δ)
@[reducible] def dNever : List Sl → W Out := fun _ => W.stuck
@[reducible] def dPar (i j : Nat) (f : List Sl → W (List D)) : List Sl → W Out := fun δ => (f δ).bind fun ds => match ds with | [x, y] => W.ret (.nx ((δ.set i (some x)).set j (some y))) | _ => W.stuck
@[reducible] def dPar3 (i j l : Nat) (f : List Sl → W (List D)) : List Sl → W Out := fun δ => (f δ).bind fun ds => match ds with | [x, y, z] => W.ret (.nx (((δ.set i (some x)).set j (some y)).set l (some z))) | _ => W.stuck
section
variable {K : PySem.W.Frag} {ts tu : XK → TS} {g h : List Sl → W Out} {te : XK → TE} {f : List Sl → W D}
theorem ls_next : LS K (fun _ => tNext) dNext := fun c w s σ δ D E o sl q => q.ret o σ sl
theorem ls_never : LS K (fun _ => tNever) dNever := fun c w s σ δ D E o sl q => q
theorem ls_brk : LS K (fun _ => tBreak) dBrk := fun c w s σ δ D E o sl q => q.ret o σ sl
theorem ls_cnt : LS K (fun _ => tCont) dCnt := fun c w s σ δ D E o sl q => q.ret o σ sl
theorem ls_seq (ha : LS K ts g) (hb : LS K tu h) : LS K (fun E => tSeq (ts E) (tu E)) (dSeq g h) := fun c w s σ δ D E o sl q =>
  ha c w s σ δ _ E o sl (q.bind.mono fun u w1 s1 g1 o1 p => by
    cases u with
    | nx ε => exact fun σ1 s1' => hb c w1 s1 σ1 ε D E o1 s1' p
    | rt d => exact p.ret o1
    | bk ε => exact p.ret o1
    | ct ε => exact p.ret o1)
theorem ls_asg {vs : List Nat} {tg : TG} {dg : D → List Sl → W (List Sl)} (he : LE K te f) (hg : LG K vs tg dg) : LS K (fun E => tAsg (te E) tg) (dAsg f dg) := fun c w s σ δ D E o sl q =>
  he c w s σ δ _ E o sl (q.bind.mono fun d w1 s1 g1 o1 p v r1 => hg c w1 s1 σ δ v d _ (xE K c E) o1 (sl.go g1) r1 (p.bind.mono fun ε w2 s2 g2 o2 p2 σ2 s2' _ _ => p2.ret o2 σ2 s2'))
theorem ls_drop (he : LE K te f) : LS K (fun E => tDrop (te E)) (dDrop f) := fun c w s σ δ D E o sl q =>
  he c w s σ δ _ E o sl (q.bind.mono fun d w1 s1 g1 o1 p v r1 => p.ret o1 σ (sl.go g1))
theorem ls_ret (he : LE K te f) : LS K (fun E => tRet (te E)) (dRet f) := fun c w s σ δ D E o sl q =>
  he c w s σ δ _ E o sl (q.bind.mono fun d w1 s1 g1 o1 p v r1 => p.ret o1 v r1)
theorem ls_retN : LS K (fun _ => tRetN) dRetN := fun c w s σ δ D E o sl q => q.ret o .non .non
theorem ls_if {tt : XK → TT} {ft : List Sl → W Bool} (ht : LT K tt ft) (ha : LS K ts g) (hb : LS K tu h) : LS K (fun E => tIfS (tt E) (ts E) (tu E)) (dIf ft g h) := fun c w s σ δ D E o sl q =>
  ht c w s σ δ _ E o sl (q.bind.mono fun k w1 s1 g1 o1 p => by
    cases k with
    | true => exact iteT (ha c w1 s1 σ δ D E o1 (sl.go g1) p)
    | false => exact iteF (hb c w1 s1 σ δ D E o1 (sl.go g1) p))
theorem ls_par {t : XK → TA} {f : List Sl → W (List D)} {i j : Nat} (ha : LA K t f) : LS K (fun E => tPar i j (t E)) (dPar i j f) := fun c w s σ δ D E o sl q =>
  ha c w s σ δ _ E o sl (q.bind.mono fun ds w1 s1 g1 o1 p vs r1 => by
    split at p
    · obtain ⟨v, u, rfl, rv, ru⟩ := r1.two
      exact ⟨v, u, rfl, p.ret o1 _ (((sl.go g1).set rv).set ru)⟩
    · exact p.elim)
theorem ls_par3 {t : XK → TA} {f : List Sl → W (List D)} {i j l : Nat} (ha : LA K t f) : LS K (fun E => tPar3 i j l (t E)) (dPar3 i j l f) := fun c w s σ δ D E o sl q =>
  ha c w s σ δ _ E o sl (q.bind.mono fun ds w1 s1 g1 o1 p vs r1 => by
    split at p
    · cases r1 with
      | cons ra rr => obtain ⟨v, u, rfl, rv, ru⟩ := rr.two; exact ⟨_, v, u, rfl, p.ret o1 _ ((((sl.go g1).set ra).set rv).set ru)⟩
    · exact p.elim)
end

/-! ### what is walked -/
def Yie (K : PySem.W.Frag) (c : Cg) (w : Wd) (J : It) (ds : List D) : Prop := ∀ (i : Nat) (w1 : Wd) (s : S), Sub w.al w.F w1.al w1.F → Ok K c w1 s →
  (∀ d, ds[i]? = some d → J.go i w1.H ∧ ∀ x H2, J.yld i w1.H x H2 → ∃ w2, w2.H = H2 ∧ Go c w1 w2 ∧ Ok K c w2 s ∧ Rep K c w2.al w2.F x d) ∧ (ds.length ≤ i → J.stop i w1.H)
def LI (K : PySem.W.Frag) (wi : XK → TI) (f : List Sl → W (List D)) : Prop := ∀ (c : Cg) (w : Wd) (s : S) (σ : L2.St) (δ : List Sl) (R : It → Hp → Prop) (E : XK), Ok K c w s → Slo K c w σ δ →
  Den K c (f δ) w s (fun ds w1 _ => ∀ J, Yie K c w1 J ds → R J w1.H) (xE K c E) → wi E σ w.H R
@[reducible] def dIL (f : List Sl → W D) : List Sl → W (List D) := fun δ => (f δ).bind fun d => match d with | .lst xs => W.ret xs | _ => W.stuck
@[reducible] def dIT (f : List Sl → W D) : List Sl → W (List D) := fun δ => (f δ).bind fun d => match d with | .tup xs => W.ret xs | _ => W.stuck
def rangeD (lo : Int) : Nat → List D
  | 0 => []
  | n + 1 => .int lo :: rangeD (lo + 1) n
theorem rangeD_len : ∀ (n : Nat) (lo : Int), (rangeD lo n).length = n
  | 0, _ => rfl
  | n + 1, lo => congrArg (· + 1) (rangeD_len n (lo + 1))
theorem rangeD_get : ∀ (n : Nat) (lo : Int) (i : Nat), i < n → (rangeD lo n)[i]? = some (.int (lo + i))
  | 0, _, _, h => absurd h (Nat.not_lt_zero _)
  | n + 1, lo, 0, _ => by show some (D.int lo) = _; congr 2; omega
  | n + 1, lo, i + 1, h => by
    show (rangeD (lo + 1) n)[i]? = _
    rw [rangeD_get n (lo + 1) i (by omega)]
    congr 2; omega
@[reducible] def dIR1 (f : List Sl → W (List D)) : List Sl → W (List D) := fun δ => (f δ).bind fun ds => match ds with | [.int j] => W.need (-(2 ^ 62) ≤ j ∧ j < 2 ^ 62) (W.ret (rangeD 0 j.toNat)) | _ => W.stuck
@[reducible] def dIR2 (f : List Sl → W (List D)) : List Sl → W (List D) := fun δ => (f δ).bind fun ds => match ds with
  | [.int i, .int j] => W.need (-(2 ^ 62) ≤ i ∧ i < 2 ^ 62 ∧ -(2 ^ 62) ≤ j ∧ j < 2 ^ 62) (W.ret (rangeD i (j - i).toNat)) | _ => W.stuck
section
variable {K : PySem.W.Frag} {c : Cg} {w : Wd} {a : Addr} {vs : List V} {ds : List D}
theorem yie_list (q : SqL K w.F a vs) (r : RepL K c w.al w.F vs ds) : Yie K c w (Itl K a) ds := fun i w1 s g o => by
  have q1 : SqL K w1.H a vs := o.fro.sqL (g.le.sqL q)
  refine ⟨fun d hd => ?_, fun h => ⟨vs, q1, by rw [r.len]; exact h⟩⟩
  obtain ⟨v, hv, rv⟩ := r.get hd
  refine ⟨⟨vs, v, q1, hv⟩, fun x H2 y => ?_⟩
  obtain ⟨rfl, y⟩ := y
  have hx := y vs q1
  rw [hv] at hx
  cases hx
  exact ⟨w1, rfl, Go.refl .., o, rv.up g⟩
theorem yie_tup (q : SqT K w.F a vs) (r : RepL K c w.al w.F vs ds) : Yie K c w (Itt K a) ds := fun i w1 s g o => by
  have q1 : SqT K w1.H a vs := o.fro.sqT (g.le.sqT q)
  refine ⟨fun d hd => ?_, fun h => ⟨vs, q1, by rw [r.len]; exact h⟩⟩
  obtain ⟨v, hv, rv⟩ := r.get hd
  refine ⟨⟨vs, v, q1, hv⟩, fun x H2 y => ?_⟩
  obtain ⟨rfl, y⟩ := y
  have hx := y vs q1
  rw [hv] at hx
  cases hx
  exact ⟨w1, rfl, Go.refl .., o, rv.up g⟩
theorem yie_range {lo : Int} {n : Nat} : Yie K c w (Itr lo n) (rangeD lo n) := fun i w1 s g o => by
  refine ⟨fun d hd => ?_, fun h => by rw [rangeD_len] at h; exact h⟩
  have hi : i < n := by
    have := (List.getElem?_eq_some_iff.mp hd).1
    rw [rangeD_len] at this; exact this
  rw [rangeD_get n lo i hi] at hd
  cases hd
  refine ⟨hi, fun x H2 y => ?_⟩
  obtain ⟨rfl, rfl⟩ := y
  exact ⟨w1, rfl, Go.refl .., o, .int _⟩
end
section
variable {K : PySem.W.Frag} {te : XK → TE} {f : List Sl → W D}
theorem li_list (he : LE K te f) : LI K (fun E => iList K (te E)) (dIL f) := fun c w s σ δ R E o sl h =>
  he c w s σ δ _ E o sl (h.bind.mono fun d w1 s1 g1 o1 p v r1 => by
    cases r1 with
    | lst q r => exact ⟨_, rfl, ⟨_, SqL.of (o1.fro _ _ q)⟩, p.ret o1 _ (yie_list (SqL.of q) r)⟩
    | _ => exact p.elim)
theorem li_tup (he : LE K te f) : LI K (fun E => iTup K (te E)) (dIT f) := fun c w s σ δ R E o sl h =>
  he c w s σ δ _ E o sl (h.bind.mono fun d w1 s1 g1 o1 p v r1 => by
    cases r1 with
    | tup q r => exact ⟨_, rfl, ⟨_, SqT.of (o1.fro _ _ q)⟩, p.ret o1 _ (yie_tup (SqT.of q) r)⟩
    | _ => exact p.elim)
theorem RepL.int1 {c : Cg} {al : List Addr} {F : Hp} {vs : List V} {j : Int} (r : RepL K c al F vs [.int j]) : vs = [.int j] := by
  cases r with
  | cons a b => cases a; cases b; rfl
theorem RepL.int2 {c : Cg} {al : List Addr} {F : Hp} {vs : List V} {i j : Int} (r : RepL K c al F vs [.int i, .int j]) : vs = [.int i, .int j] := by
  cases r with
  | cons a b => cases a; rw [b.int1]
theorem li_range1 {ta : XK → TA} {fa : List Sl → W (List D)} (ha : LA K ta fa) : LI K (fun E => iRng1 (ta E)) (dIR1 fa) := fun c w s σ δ R E o sl h =>
  ha c w s σ δ _ E o sl (h.bind.mono fun ds w1 s1 g1 o1 p vs r1 => by
    split at p
    · rename_i j
      exact ⟨j, r1.int1, p.1.1, p.1.2, Den.ret (K := K) (c := c) p.2 o1 _ yie_range⟩
    · exact p.elim)
theorem li_range2 {ta : XK → TA} {fa : List Sl → W (List D)} (ha : LA K ta fa) : LI K (fun E => iRng2 (ta E)) (dIR2 fa) := fun c w s σ δ R E o sl h =>
  ha c w s σ δ _ E o sl (h.bind.mono fun ds w1 s1 g1 o1 p vs r1 => by
    split at p
    · rename_i i j
      exact ⟨i, j, r1.int2, p.1, Den.ret (K := K) (c := c) p.2 o1 _ yie_range⟩
    · exact p.elim)
end

/-! ### for -/
def forD (dg : D → List Sl → W (List Sl)) (gb : List Sl → W Out) : List D → List Sl → W Out
  | [], δ => W.ret (.nx δ)
  | d :: ds, δ => (dg d δ).bind fun ε => (gb ε).bind fun o => match o with
    | .nx ε => forD dg gb ds ε
    | .ct ε => forD dg gb ds ε
    | .bk ε => W.ret (.nx ε)
    | .rt d => W.ret (.rt d)
@[reducible] def dFor (fi : List Sl → W (List D)) (dg : D → List Sl → W (List Sl)) (gb : List Sl → W Out) : List Sl → W Out := fun δ => (fi δ).bind fun ds => forD dg gb ds δ
theorem ls_for {K : PySem.W.Frag} {wi : XK → TI} {fi : List Sl → W (List D)} {vs : List Nat} {tg : TG} {dg : D → List Sl → W (List Sl)} {tb : XK → TS} {gb : List Sl → W Out} (hi : LI K wi fi) (hg : LG K vs tg dg) (hb : LS K tb gb) :
    LS K (fun E => tFor (wi E) tg (tb E)) (dFor fi dg gb) := fun c w s σ δ D E o sl q => by
  refine hi c w s σ δ _ E o sl (q.bind.mono fun ds w1 s1 g1 o1 p J y => ?_)
  refine ⟨fun i m σ H => m = ds.length - i ∧ i ≤ ds.length ∧ ∃ w2 s2 δ, w2.H = H ∧ Go c w1 w2 ∧ Ok K c w2 s2 ∧ Slo K c w2 σ δ ∧ Den K c (forD dg gb (ds.drop i) δ) w2 s2 (qS K c D) (xE K c E),
    ⟨ds.length, by simp, Nat.zero_le _, w1, s1, δ, rfl, Go.refl .., o1, sl.go g1, p⟩, ?_⟩
  rintro i m2 σ2 H2 ⟨rfl, hi2, w2, s2, δ2, rfl, k2, o2, sl2, p2⟩
  by_cases hlt : i < ds.length
  · refine .inr ?_
    have ed : ds[i]? = some ds[i] := List.getElem?_eq_getElem hlt
    obtain ⟨go, yl⟩ := (y i w2 s2 k2.sub o2).1 _ ed
    refine ⟨go, fun σ' H' => i + 1 ≤ ds.length ∧ ∃ w2 s2 δ, w2.H = H' ∧ Go c w1 w2 ∧ Ok K c w2 s2 ∧ Slo K c w2 σ' δ ∧ Den K c (forD dg gb (ds.drop (i + 1)) δ) w2 s2 (qS K c D) (xE K c E), ?_, ?_⟩
    · rintro σ' H' ⟨h1, h2⟩
      exact ⟨ds.length - (i + 1), by omega, rfl, h1, h2⟩
    · intro x H3 yx
      obtain ⟨w3, rfl, k3, o3, r3⟩ := yl x H3 yx
      rw [List.drop_eq_getElem_cons hlt] at p2
      have p3 : Den K c (forD dg gb (ds[i] :: ds.drop (i + 1)) δ2) w3 s2 (qS K c D) (xE K c E) := Den.on (s0 := s2) p2 k3
      refine hg c w3 s2 σ2 δ2 x _ _ (xE K c E) o3 (sl2.go k3) r3 (p3.bind.mono fun ε w4 s4 k4 o4 p4 σ4 sl4 _ _ => ?_)
      refine hb c w4 s4 σ4 ε _ E o4 sl4 (p4.bind.mono fun u w5 s5 k5 o5 p5 => ?_)
      have k15 := ((k2.trans k3 o3).trans k4 o4).trans k5 o5
      cases u with
      | nx ε5 => exact fun σ5 sl5 => ⟨hlt, w5, s5, ε5, rfl, k15, o5, sl5, p5⟩
      | ct ε5 => exact fun σ5 sl5 => ⟨hlt, w5, s5, ε5, rfl, k15, o5, sl5, p5⟩
      | bk ε5 => exact fun σ5 sl5 => p5.ret o5 σ5 sl5
      | rt d => exact fun v rv => p5.ret o5 v rv
  · have e : i = ds.length := by omega
    subst e
    rw [List.drop_length] at p2
    exact .inl ⟨(y ds.length w2 s2 k2.sub o2).2 (Nat.le_refl _), Den.ret p2 o2 σ2 sl2⟩

/-! ### while -/
def whileD (ft : List Sl → W Bool) (gb : List Sl → W Out) : Nat → List Sl → W Out
  | 0, _ => W.stuck
  | m + 1, δ => (ft δ).bind fun k => match k with
    | false => W.ret (.nx δ)
    | true => (gb δ).bind fun o => match o with
      | .nx ε => whileD ft gb m ε
      | .ct ε => whileD ft gb m ε
      | .bk ε => W.ret (.nx ε)
      | .rt d => W.ret (.rt d)
/-- any number of turns that is enough -/
@[reducible] def dWhile (ft : List Sl → W Bool) (gb : List Sl → W Out) : List Sl → W Out := fun δ => ⟨fun s Q E => ∃ m, (whileD ft gb m δ).wp s Q E, fun h g ⟨m, p⟩ => ⟨m, (whileD ft gb m δ).mono h g p⟩⟩
theorem ls_while {K : PySem.W.Frag} {tt : XK → TT} {ft : List Sl → W Bool} {tb : XK → TS} {gb : List Sl → W Out} (ht : LT K tt ft) (hb : LS K tb gb) : LS K (fun E => tWhile (tt E) (tb E)) (dWhile ft gb) := fun c w s σ δ D E o sl q => by
  obtain ⟨m0, q⟩ := q
  refine ⟨fun m σ H => ∃ w1 s1 δ, w1.H = H ∧ Ok K c w1 s1 ∧ Slo K c w1 σ δ ∧ Den K c (whileD ft gb m δ) w1 s1 (qS K c D) (xE K c E), ⟨m0, w, s, δ, rfl, o, sl, q⟩, ?_⟩
  rintro m σ1 H1 ⟨w1, s1, δ1, rfl, o1, sl1, p1⟩
  cases m with
  | zero => exact p1.elim
  | succ m =>
    refine ht c w1 s1 σ1 δ1 _ E o1 sl1 ((show Den K c ((ft δ1).bind _) w1 s1 _ _ from p1).bind.mono fun k w2 s2 g2 o2 p2 => ?_)
    cases k with
    | false => exact iteF (p2.ret o2 σ1 (sl1.go g2))
    | true =>
      refine iteT ⟨fun σ' H' => ∃ w1 s1 δ, w1.H = H' ∧ Ok K c w1 s1 ∧ Slo K c w1 σ' δ ∧ Den K c (whileD ft gb m δ) w1 s1 (qS K c D) (xE K c E), fun σ' H' h => ⟨m, Nat.lt_succ_self m, h⟩, ?_⟩
      refine hb c w2 s2 σ1 δ1 _ E o2 (sl1.go g2) ((show Den K c ((gb δ1).bind _) w2 s2 _ _ from p2).bind.mono fun u w3 s3 g3 o3 p3 => ?_)
      cases u with
      | nx ε => exact fun σ5 sl5 => ⟨w3, s3, ε, rfl, o3, sl5, p3⟩
      | ct ε => exact fun σ5 sl5 => ⟨w3, s3, ε, rfl, o3, sl5, p3⟩
      | bk ε => exact fun σ5 sl5 => p3.ret o3 σ5 sl5
      | rt d => exact fun v rv => p3.ret o3 v rv
end Ly
set_option Elab.async false
set_option linter.all false
set_option maxRecDepth 100000
set_option maxHeartbeats 2000000
/-! Ly3: worlds that change, comprehensions, calls, defs. -/
namespace Ly
open PySem L2 PyProof.Rows
open Lx (Le)

/-! ### worlds that change -/
section
variable {K : PySem.W.Frag} {c : Cg} {w w1 : Wd} {s : S} {p : Addr} {o u : HO}
theorem tabs_upd {T : List (Addr × Str)} {H : Hp} (t : LamX.Tabs T H) (hx : ∀ u, H p = some u → (∀ ps, u ≠ .tbl ps) ∧ ∀ φ, u ≠ .ext φ) : LamX.Tabs T (upd H p o) := fun q hq => by
  obtain ⟨ps, h1, h2, h3⟩ := t q hq
  have n1 : q.1 ≠ p := fun z => by rw [z] at h1; exact (hx _ h1).1 ps rfl
  refine ⟨ps, by rw [upd_ne n1]; exact h1, h2, fun pos cv hc => ?_⟩
  obtain ⟨d, e1, e2⟩ := h3 pos cv hc
  have n2 : d ≠ p := fun z => by rw [z] at e2; exact (hx _ e2).2 _ rfl
  exact ⟨d, e1, by rw [upd_ne n2]; exact e2⟩
theorem Ok.upH (k : Ok K c w s) (hp : p ≠ c.pn) (hF : w.F p = none) (ha : p ∉ w.al) (hx : ∀ u, w.H p = some u → (∀ ps, u ≠ .tbl ps) ∧ ∀ φ, u ≠ .ext φ) : Ok K c ⟨w.al, w.F, upd w.H p o⟩ s := by
  have na : ∀ a ∈ w.al, a ≠ p := fun a z e => ha (e ▸ z)
  refine ⟨fun a u e => ?_, k.fpn, k.pna, k.nd, k.len, fun a z => ?_, k.pen.of (Le.refl _) (upd_ne hp.symm), tabs_upd k.tab hx, k.ftb, fun a z ps => ?_, fun a z φ => ?_, fun i a m e1 e2 => ?_⟩
  · show upd w.H p o a = some u
    rw [upd_ne (ne_of_none e hF)]; exact k.fro a u e
  · show upd w.H p o a ≠ none
    rw [upd_ne (na a z)]; exact k.occ a z
  · show upd w.H p o a ≠ _
    rw [upd_ne (na a z)]; exact k.atb a z ps
  · show upd w.H p o a ≠ _
    rw [upd_ne (na a z)]; exact k.aco a z φ
  · exact (k.sto i a m e1 e2).of (Sub.refl _ _) (upd_ne (na a (List.mem_of_getElem? e1))) fun z => z
theorem Go.upH (g : Go c w w1) (h : w.H p = none) : Go c w ⟨w1.al, w1.F, upd w1.H p o⟩ := by
  refine ⟨fun a u np na nt e => ?_, g.sub, g.new, g.newA⟩
  show upd w1.H p o a = some u
  rw [upd_ne (ne_of_none e h)]; exact g.keep a u np na nt e
/-- what is one's own is frozen -/
theorem Ok.frz (k : Ok K c w s) (hp : p ≠ c.pn) (ha : p ∉ w.al) (hF : w.F p = none) (h : w.H p = some u) (nt : ∀ ps, u ≠ .tbl ps) : Ok K c ⟨w.al, upd w.F p u, w.H⟩ s := by
  have sb : Sub w.al w.F w.al (upd w.F p u) := ⟨List.prefix_refl _, Le.up hF⟩
  refine ⟨fun a v e => ?_, ?_, k.pna, k.nd, k.len, k.occ, k.pen.of (Le.up hF) rfl, k.tab, fun a ps => ?_, k.atb, k.aco, fun i a m e1 e2 => ?_⟩
  · have e : upd w.F p u a = some v := e
    by_cases e2 : a = p
    · subst e2; rw [upd_same] at e; cases e; exact h
    · rw [upd_ne e2] at e; exact k.fro a v e
  · show upd w.F p u c.pn = none
    rw [upd_ne hp.symm]; exact k.fpn
  · show upd w.F p u a ≠ _
    by_cases e2 : a = p
    · subst e2; rw [upd_same]; exact fun z => nt ps (Option.some.inj z)
    · rw [upd_ne e2]; exact k.ftb a ps
  · have ne : a ≠ p := fun z => ha (z ▸ List.mem_of_getElem? e1)
    exact (k.sto i a m e1 e2).of sb rfl fun z => by show upd w.F p u a = none; rw [upd_ne ne]; exact z
theorem Go.frz (g : Go c w w1) (hF : w1.F p = none) (h : w.fre p ∨ p ∈ w.al) : Go c w ⟨w1.al, upd w1.F p u, w1.H⟩ := by
  refine ⟨g.keep, ⟨g.sub.pre, g.sub.le.trans (Le.up hF)⟩, fun a v e z => ?_, g.newA⟩
  have e : upd w1.F p u a = some v := e
  by_cases e2 : a = p
  · subst e2; exact h
  · rw [upd_ne e2] at e; exact g.new a v e z
theorem Go.none {xs : List V} (g : Go c w w1) (hF : w.F p = none) (h : w.H p = some (.lst xs)) (ha : p ∉ w.al) : w1.F p = none := by
  cases q : w1.F p with
  | none => rfl
  | some v => exact ((g.new p v q hF).elim (fun z => by obtain ⟨ps, e⟩ := z _ h; cases e) ha).elim
theorem Go.out {xs : List V} (g : Go c w w1) (h : w.H p = some (.lst xs)) (ha : p ∉ w.al) : p ∉ w1.al := fun z => (g.newA p z).elim ha fun y => by obtain ⟨ps, e⟩ := y _ h; cases e
theorem notOwn {xs : List V} : (∀ ps, HO.lst xs ≠ .tbl ps) ∧ ∀ φ, HO.lst xs ≠ .ext φ := ⟨fun _ z => (by cases z), fun _ z => (by cases z)⟩
end
theorem Den.rawC {K : PySem.W.Frag} {c : Cg} {A B : Type} {m : W A} {f : A → W B} {w : Wd} {s : S} {P : S → B → Prop} {G : Xn → Wd → S → Prop} (h : (m.bind f).wp s P fun _ _ => False) :
    Den K c m w s (fun a _ t => (f a).wp t P fun _ _ => False) G := m.mono (fun t a z w' g' o' => z) (fun t x z => z.elim) h

/-! ### the slots of a block -/
def wipeD (δ : List Sl) : List Nat → List Sl
  | [] => δ
  | v :: vs => (wipeD δ vs).set v none
theorem Slo.wipe {K : PySem.W.Frag} {c : Cg} {w : Wd} {σ : L2.St} {δ : List Sl} (s : Slo K c w σ δ) : ∀ vs : List Nat, Slo K c w (L2.wipe σ vs) (wipeD δ vs)
  | [] => s
  | v :: vs => (Slo.wipe s vs).forget

/-! ### comprehensions -/
def lcD (dg : D → List Sl → W (List Sl)) (ft : List Sl → W Bool) (fe : List Sl → W D) (δ : List Sl) : List D → Nat → W (List D)
  | [], _ => W.ret []
  | d :: ds, k => (dg d δ).bind fun ε => (ft ε).bind fun b => match b with
    | false => lcD dg ft fe δ ds k
    | true => (fe ε).bind fun y => W.need (k < sizeLine) ((lcD dg ft fe δ ds (k + 1)).bind fun ys => W.ret (y :: ys))
@[reducible] def dLc (fi : List Sl → W (List D)) (dg : D → List Sl → W (List Sl)) (ft : List Sl → W Bool) (fe : List Sl → W D) (vs : List Nat) : List Sl → W D := fun δ => (fi δ).bind fun ds => ((lcD dg ft fe (wipeD δ vs) ds 0).calm).bind fun l => W.ret (.lst l)
@[reducible] def dYes : List Sl → W Bool := fun _ => W.ret true
theorem lt_yes {K : PySem.W.Frag} : LT K (fun _ => tYes) dYes := fun c w s σ δ Q E o sl h => h.ret o
theorem le_lc {K : PySem.W.Frag} {wi : XK → TI} {fi : List Sl → W (List D)} {us vs : List Nat} {tg : TG} {dg : D → List Sl → W (List Sl)} {tt : XK → TT} {ft : List Sl → W Bool} {te : XK → TE} {fe : List Sl → W D}
    (hi : LI K wi fi) (hg : LG K us tg dg) (ht : LT K tt ft) (he : LE K te fe) (hu : ∀ j, j ∈ us → j ∈ vs) : LE K (fun E => tLc (wi E) tg (tt E0) (te E0) vs) (dLc fi dg ft fe vs) := fun c w s σ δ Q E o sl q => by
  refine hi c w s σ δ _ E o sl (q.bind.mono fun ds w1 s1 g1 o1 p J y D0 hD => ?_)
  have nD := o1.ne hD
  have o1' : Ok K c ⟨w1.al, w1.F, upd w1.H D0 (.lst [])⟩ s1 := o1.upH nD (o1.free hD) (o1.out hD) (fun u z => by rw [hD] at z; cases z)
  have k1' : Go c w1 ⟨w1.al, w1.F, upd w1.H D0 (.lst [])⟩ := (Go.refl c w1).upH hD
  let PQ : S → List D → Prop := fun t l => ∀ w', Go c w1 w' → Ok K c w' t → ∀ v, Rep K c w'.al w'.F v (.lst l) → Q v w'.H
  have p0 : (lcD dg ft fe (wipeD δ vs) ds 0).wp s1 PQ fun _ _ => False := p
  refine ⟨fun i m H2 => m = ds.length - i ∧ i ≤ ds.length ∧ ∃ w2 s2 acc ws, w2.H = H2 ∧ Go c w1 w2 ∧ Ok K c w2 s2 ∧ w2.F D0 = none ∧ D0 ∉ w2.al ∧ H2 D0 = some (.lst ws) ∧ RepL K c w2.al w2.F ws acc ∧
      (lcD dg ft fe (wipeD δ vs) (ds.drop i) acc.length).wp s2 (fun t ys => PQ t (acc ++ ys)) fun _ _ => False,
    ⟨ds.length, by simp, Nat.zero_le _, _, s1, [], [], rfl, k1', o1', o1.free hD, o1.out hD, upd_same, .nil, p0⟩, ?_⟩
  rintro i m2 H2 ⟨rfl, hi2, w2, s2, acc, ws, rfl, k2, o2, fD, aD, hD2, rw2, p2⟩
  by_cases hlt : i < ds.length
  · refine .inr ?_
    have ed : ds[i]? = some ds[i] := List.getElem?_eq_getElem hlt
    obtain ⟨go, yl⟩ := (y i w2 s2 k2.sub o2).1 _ ed
    refine ⟨go, fun H2 => i + 1 ≤ ds.length ∧ ∃ w2 s2 acc ws, w2.H = H2 ∧ Go c w1 w2 ∧ Ok K c w2 s2 ∧ w2.F D0 = none ∧ D0 ∉ w2.al ∧ H2 D0 = some (.lst ws) ∧ RepL K c w2.al w2.F ws acc ∧
      (lcD dg ft fe (wipeD δ vs) (ds.drop (i + 1)) acc.length).wp s2 (fun t ys => PQ t (acc ++ ys)) fun _ _ => False, ?_, ?_⟩
    · rintro H' ⟨h1, h2⟩
      exact ⟨ds.length - (i + 1), by omega, rfl, h1, h2⟩
    · intro x H3 yx
      obtain ⟨w3, rfl, k3, o3, r3⟩ := yl x H3 yx
      rw [List.drop_eq_getElem_cons hlt] at p2
      have k03 := k2.trans k3 o3
      refine hg c w3 s2 (L2.wipe σ vs) (wipeD δ vs) x _ _ (fun _ _ _ => False) o3 ((sl.go (g1.trans k03 o3)).wipe vs) r3 ((Den.rawC (K := K) (c := c) (w := w3) p2).mono fun ε w4 s4 k4 o4 p4 σ4 sl4 e4 l4 => ?_)
      refine ⟨Lx.wipe_eq (fun j hj => e4 j fun z => hj (hu j z)) l4, ?_⟩
      refine ht c w4 s4 σ4 ε _ E0 o4 sl4 ((Den.rawC (K := K) (c := c) (w := w4) p4).mono fun b w5 s5 k5 o5 p5 => ?_)
      have nt : ∀ ps, HO.lst ws ≠ .tbl ps := notOwn.1
      have f3 := k3.none fD hD2 aD
      have a3 := k3.out hD2 aD
      have h3 := k3.keep _ _ nD aD nt hD2
      have f4 := k4.none f3 h3 a3
      have a4 := k4.out h3 a3
      have h4 := k4.keep _ _ nD a3 nt h3
      have f5 := k5.none f4 h4 a4
      have a5 := k5.out h4 a4
      have h5 := k5.keep _ _ nD a4 nt h4
      have k05 := (k03.trans k4 o4).trans k5 o5
      have rw5 := ((rw2.up k3.sub).up k4.sub).up k5.sub
      cases b with
      | false => exact iteF ⟨hlt, w5, s5, acc, ws, rfl, k05, o5, f5, a5, h5, rw5, p5⟩
      | true =>
        refine iteT (he c w5 s5 σ4 ε _ E0 o5 (sl4.go k5) ((Den.rawC (K := K) (c := c) (w := w5) p5).mono fun z w6 s6 k6 o6 p6 v r6 => ?_))
        have f6 := k6.none f5 h5 a5
        have a6 := k6.out h5 a5
        have h6 := k6.keep _ _ nD a5 nt h5
        refine ⟨ws, h6, by rw [rw5.len]; exact p6.1, hlt, ⟨w6.al, w6.F, upd w6.H D0 (.lst (ws ++ [v]))⟩, s6, acc ++ [z], ws ++ [v], rfl, (k05.trans k6 o6).upH hD, o6.upH nD f6 a6 (fun u z => by rw [h6] at z; cases z; exact notOwn), f6, a6, upd_same, (rw5.up k6.sub).app (.cons r6 .nil), ?_⟩
        rw [List.length_append, List.length_singleton]
        refine (lcD dg ft fe (wipeD δ vs) (ds.drop (i + 1)) (acc.length + 1)).mono (fun t ys p7 => ?_) (fun _ _ z => z) p6.2
        rw [List.append_assoc]
        exact p7
  · have e : i = ds.length := by omega
    subst e
    rw [List.drop_length] at p2
    refine .inl ⟨(y ds.length w2 s2 k2.sub o2).2 (Nat.le_refl _), ?_⟩
    have p2' : PQ s2 (acc ++ []) := p2
    rw [List.append_nil] at p2'
    exact p2' ⟨w2.al, upd w2.F D0 (.lst ws), w2.H⟩ (k2.frz fD (.inl (Wd.fre_none hD))) (o2.frz nD aD fD hD2 notOwn.1) (.ref D0) (.lst upd_same (rw2.up ⟨List.prefix_refl _, Le.up fD⟩))

/-! two clauses -/
def lc2D (dg : D → List Sl → W (List Sl)) (ft : List Sl → W Bool) (fj : List Sl → W (List D)) (dh : D → List Sl → W (List Sl)) (fu : List Sl → W Bool) (fe : List Sl → W D) (us : List Nat) (δ : List Sl) : List D → Nat → W (List D)
  | [], _ => W.ret []
  | d :: ds, k => (dg d δ).bind fun ε => (ft ε).bind fun b => match b with
    | false => lc2D dg ft fj dh fu fe us δ ds k
    | true => (fj ε).bind fun es => (lcD dh fu fe (wipeD ε us) es k).bind fun ys => (lc2D dg ft fj dh fu fe us δ ds (k + ys.length)).bind fun zs => W.ret (ys ++ zs)
@[reducible] def dLc2 (fi : List Sl → W (List D)) (dg : D → List Sl → W (List Sl)) (ft : List Sl → W Bool) (fj : List Sl → W (List D)) (dh : D → List Sl → W (List Sl)) (fu : List Sl → W Bool) (fe : List Sl → W D) (vs us : List Nat) : List Sl → W D :=
  fun δ => (fi δ).bind fun ds => ((lc2D dg ft fj dh fu fe us (wipeD δ vs) ds 0).calm).bind fun l => W.ret (.lst l)
theorem le_lc2 {K : PySem.W.Frag} {wi wj : XK → TI} {fi fj : List Sl → W (List D)} {us vs v1 v2 : List Nat} {tg th : TG} {dg dh : D → List Sl → W (List Sl)} {tt tu : XK → TT} {ft fu : List Sl → W Bool} {te : XK → TE} {fe : List Sl → W D}
    (hi : LI K wi fi) (hg : LG K v1 tg dg) (ht : LT K tt ft) (hj : LI K wj fj) (hh : LG K v2 th dh) (hu : LT K tu fu) (he : LE K te fe) (h1 : ∀ j, j ∈ v1 → j ∈ vs) (h2 : ∀ j, j ∈ v2 → j ∈ us) :
    LE K (fun E => tLc2 (wi E) tg (tt E0) (wj E0) th (tu E0) (te E0) vs us) (dLc2 fi dg ft fj dh fu fe vs us) := fun c w s σ δ Q E o sl q => by
  refine hi c w s σ δ _ E o sl (q.bind.mono fun ds w1 s1 g1 o1 p J y D0 hD => ?_)
  have nD := o1.ne hD
  have o1' : Ok K c ⟨w1.al, w1.F, upd w1.H D0 (.lst [])⟩ s1 := o1.upH nD (o1.free hD) (o1.out hD) (fun u z => by rw [hD] at z; cases z)
  have k1' : Go c w1 ⟨w1.al, w1.F, upd w1.H D0 (.lst [])⟩ := (Go.refl c w1).upH hD
  let PQ : S → List D → Prop := fun t l => ∀ w', Go c w1 w' → Ok K c w' t → ∀ v, Rep K c w'.al w'.F v (.lst l) → Q v w'.H
  have p0 : (lc2D dg ft fj dh fu fe us (wipeD δ vs) ds 0).wp s1 PQ fun _ _ => False := p
  refine ⟨fun i m H2 => m = ds.length - i ∧ i ≤ ds.length ∧ ∃ w2 s2 acc ws, w2.H = H2 ∧ Go c w1 w2 ∧ Ok K c w2 s2 ∧ w2.F D0 = none ∧ D0 ∉ w2.al ∧ H2 D0 = some (.lst ws) ∧ RepL K c w2.al w2.F ws acc ∧
      (lc2D dg ft fj dh fu fe us (wipeD δ vs) (ds.drop i) acc.length).wp s2 (fun t ys => PQ t (acc ++ ys)) fun _ _ => False,
    ⟨ds.length, by simp, Nat.zero_le _, _, s1, [], [], rfl, k1', o1', o1.free hD, o1.out hD, upd_same, .nil, p0⟩, ?_⟩
  rintro i m2 H2 ⟨rfl, hi2, w2, s2, acc, ws, rfl, k2, o2, fD, aD, hD2, rw2, p2⟩
  by_cases hlt : i < ds.length
  · refine .inr ?_
    have ed : ds[i]? = some ds[i] := List.getElem?_eq_getElem hlt
    obtain ⟨go, yl⟩ := (y i w2 s2 k2.sub o2).1 _ ed
    refine ⟨go, fun H2 => i + 1 ≤ ds.length ∧ ∃ w2 s2 acc ws, w2.H = H2 ∧ Go c w1 w2 ∧ Ok K c w2 s2 ∧ w2.F D0 = none ∧ D0 ∉ w2.al ∧ H2 D0 = some (.lst ws) ∧ RepL K c w2.al w2.F ws acc ∧
      (lc2D dg ft fj dh fu fe us (wipeD δ vs) (ds.drop (i + 1)) acc.length).wp s2 (fun t ys => PQ t (acc ++ ys)) fun _ _ => False, ?_, ?_⟩
    · rintro H' ⟨h1, h2⟩
      exact ⟨ds.length - (i + 1), by omega, rfl, h1, h2⟩
    · intro x H3 yx
      obtain ⟨w3, rfl, k3, o3, r3⟩ := yl x H3 yx
      rw [List.drop_eq_getElem_cons hlt] at p2
      have k03 := k2.trans k3 o3
      refine hg c w3 s2 (L2.wipe σ vs) (wipeD δ vs) x _ _ (fun _ _ _ => False) o3 ((sl.go (g1.trans k03 o3)).wipe vs) r3 ((Den.rawC (K := K) (c := c) (w := w3) p2).mono fun ε w4 s4 k4 o4 p4 σ4 sl4 e4 l4 => ?_)
      refine ⟨Lx.wipe_eq (fun j hj => e4 j fun z => hj (h1 j z)) l4, ?_⟩
      refine ht c w4 s4 σ4 ε _ E0 o4 sl4 ((Den.rawC (K := K) (c := c) (w := w4) p4).mono fun b w5 s5 k5 o5 p5 => ?_)
      have nt : ∀ ws : List V, ∀ ps, HO.lst ws ≠ .tbl ps := fun _ => notOwn.1
      have f3 := k3.none fD hD2 aD
      have a3 := k3.out hD2 aD
      have h3 := k3.keep _ _ nD aD (nt _) hD2
      have f4 := k4.none f3 h3 a3
      have a4 := k4.out h3 a3
      have h4 := k4.keep _ _ nD a3 (nt _) h3
      have f5 := k5.none f4 h4 a4
      have a5 := k5.out h4 a4
      have h5 := k5.keep _ _ nD a4 (nt _) h4
      have k05 := (k03.trans k4 o4).trans k5 o5
      have rw5 := ((rw2.up k3.sub).up k4.sub).up k5.sub
      cases b with
      | false => exact iteF ⟨hlt, w5, s5, acc, ws, rfl, k05, o5, f5, a5, h5, rw5, p5⟩
      | true =>
        have sl5 := sl4.go k5
        refine iteT (hj c w5 s5 σ4 ε _ E0 o5 sl5 ((Den.rawC (K := K) (c := c) (w := w5) p5).mono fun es w6 s6 k6 o6 p6 J1 y6 => ?_))
        have f6 := k6.none f5 h5 a5
        have a6 := k6.out h5 a5
        have h6 := k6.keep _ _ nD a5 (nt _) h5
        have k06 := k05.trans k6 o6
        have sl6 := sl5.go k6
        have p6' : ((lcD dh fu fe (wipeD ε us) es acc.length).bind fun ys => (lc2D dg ft fj dh fu fe us (wipeD δ vs) (ds.drop (i + 1)) (acc.length + ys.length)).bind fun zs => W.ret (ys ++ zs)).wp s6 (fun t ys => PQ t (acc ++ ys)) (fun _ _ => False) := p6
        refine ⟨fun j m H7 => m = es.length - j ∧ j ≤ es.length ∧ ∃ w7 s7 ac ws, w7.H = H7 ∧ Sub w6.al w6.F w7.al w7.F ∧ Go c w1 w7 ∧ Ok K c w7 s7 ∧ w7.F D0 = none ∧ D0 ∉ w7.al ∧ H7 D0 = some (.lst ws) ∧ RepL K c w7.al w7.F ws (acc ++ ac) ∧
            (lcD dh fu fe (wipeD ε us) (es.drop j) (acc.length + ac.length)).wp s7 (fun t ys => (lc2D dg ft fj dh fu fe us (wipeD δ vs) (ds.drop (i + 1)) (acc.length + (ac ++ ys).length)).wp t (fun t zs => PQ t (acc ++ ((ac ++ ys) ++ zs))) fun _ _ => False) fun _ _ => False,
          ⟨es.length, by simp, Nat.zero_le _, w6, s6, [], ws, rfl, Sub.refl _ _, k06, o6, f6, a6, h6, by rw [List.append_nil]; exact rw5.up k6.sub, p6'⟩, ?_⟩
        rintro j m7 H7 ⟨rfl, hj7, w7, s7, ac, v7, rfl, l7, k7, o7, f7, a7, h7, r7, p7⟩
        by_cases hlt7 : j < es.length
        · refine .inr ?_
          have ed7 : es[j]? = some es[j] := List.getElem?_eq_getElem hlt7
          obtain ⟨go7, yl7⟩ := (y6 j w7 s7 l7 o7).1 _ ed7
          refine ⟨go7, fun H7 => j + 1 ≤ es.length ∧ ∃ w7 s7 ac ws, w7.H = H7 ∧ Sub w6.al w6.F w7.al w7.F ∧ Go c w1 w7 ∧ Ok K c w7 s7 ∧ w7.F D0 = none ∧ D0 ∉ w7.al ∧ H7 D0 = some (.lst ws) ∧ RepL K c w7.al w7.F ws (acc ++ ac) ∧
            (lcD dh fu fe (wipeD ε us) (es.drop (j + 1)) (acc.length + ac.length)).wp s7 (fun t ys => (lc2D dg ft fj dh fu fe us (wipeD δ vs) (ds.drop (i + 1)) (acc.length + (ac ++ ys).length)).wp t (fun t zs => PQ t (acc ++ ((ac ++ ys) ++ zs))) fun _ _ => False) fun _ _ => False, ?_, ?_⟩
          · rintro H' ⟨h1, h2⟩
            exact ⟨es.length - (j + 1), by omega, rfl, h1, h2⟩
          · intro x8 H8 yx8
            obtain ⟨w8, rfl, k8, o8, r8⟩ := yl7 x8 H8 yx8
            rw [List.drop_eq_getElem_cons hlt7] at p7
            have sl8 : Slo K c w8 σ4 ε := (sl6.sub l7).go k8
            have f8 := k8.none f7 h7 a7
            have a8 := k8.out h7 a7
            have h8 := k8.keep _ _ nD a7 (nt _) h7
            refine hh c w8 s7 (L2.wipe σ4 us) (wipeD ε us) x8 _ _ (fun _ _ _ => False) o8 (sl8.wipe us) r8 ((Den.rawC (K := K) (c := c) (w := w8) p7).mono fun η w9 s9 k9 o9 p9 σ9 sl9 e9 l9 => ?_)
            refine ⟨Lx.wipe_eq (fun j hj => e9 j fun z => hj (h2 j z)) l9, ?_⟩
            refine hu c w9 s9 σ9 η _ E0 o9 sl9 ((Den.rawC (K := K) (c := c) (w := w9) p9).mono fun b wa sa ka oa pa => ?_)
            have f9 := k9.none f8 h8 a8
            have a9 := k9.out h8 a8
            have h9 := k9.keep _ _ nD a8 (nt _) h8
            have fa := ka.none f9 h9 a9
            have aa := ka.out h9 a9
            have ha := ka.keep _ _ nD a9 (nt _) h9
            have k0a := ((k7.trans k8 o8).trans k9 o9).trans ka oa
            have la : Sub w6.al w6.F wa.al wa.F := ((l7.trans k8.sub).trans k9.sub).trans ka.sub
            have ra := ((r7.up k8.sub).up k9.sub).up ka.sub
            cases b with
            | false => exact iteF ⟨hlt7, wa, sa, ac, v7, rfl, la, k0a, oa, fa, aa, ha, ra, pa⟩
            | true =>
              refine iteT (he c wa sa σ9 η _ E0 oa (sl9.go ka) ((Den.rawC (K := K) (c := c) (w := wa) pa).mono fun z wb sb kb ob pb v rb => ?_))
              have fb := kb.none fa ha aa
              have ab := kb.out ha aa
              have hb := kb.keep _ _ nD aa (nt _) ha
              refine ⟨v7, hb, by rw [ra.len, List.length_append]; exact pb.1, hlt7, ⟨wb.al, wb.F, upd wb.H D0 (.lst (v7 ++ [v]))⟩, sb, ac ++ [z], v7 ++ [v], rfl, la.trans kb.sub, (k0a.trans kb ob).upH hD, ob.upH nD fb ab (fun u z => by rw [hb] at z; cases z; exact notOwn), fb, ab, upd_same, by rw [← List.append_assoc]; exact (ra.up kb.sub).app (.cons rb .nil), ?_⟩
              rw [List.length_append, List.length_singleton]
              refine (lcD dh fu fe (wipeD ε us) (es.drop (j + 1)) (acc.length + ac.length + 1)).mono (fun t ys pc => ?_) (fun _ _ z => z) pb.2
              rw [List.append_assoc]
              exact pc
        · have e : j = es.length := by omega
          subst e
          rw [List.drop_length] at p7
          refine .inl ⟨(y6 es.length w7 s7 l7 o7).2 (Nat.le_refl _), ?_⟩
          refine ⟨hlt, w7, s7, acc ++ ac, v7, rfl, k7, o7, f7, a7, h7, r7, ?_⟩
          have p7' : (lc2D dg ft fj dh fu fe us (wipeD δ vs) (ds.drop (i + 1)) (acc.length + (ac ++ []).length)).wp s7 (fun t zs => PQ t (acc ++ ((ac ++ []) ++ zs))) (fun _ _ => False) := p7
          rw [List.append_nil] at p7'
          rw [List.length_append]
          refine (lc2D dg ft fj dh fu fe us (wipeD δ vs) (ds.drop (i + 1)) (acc.length + ac.length)).mono (fun t ys pc => ?_) (fun _ _ z => z) p7'
          rw [List.append_assoc]
          exact pc
  · have e : i = ds.length := by omega
    subst e
    rw [List.drop_length] at p2
    refine .inl ⟨(y ds.length w2 s2 k2.sub o2).2 (Nat.le_refl _), ?_⟩
    have p2' : PQ s2 (acc ++ []) := p2
    rw [List.append_nil] at p2'
    exact p2' ⟨w2.al, upd w2.F D0 (.lst ws), w2.H⟩ (k2.frz fD (.inl (Wd.fre_none hD))) (o2.frz nD aD fD hD2 notOwn.1) (.ref D0) (.lst upd_same (rw2.up ⟨List.prefix_refl _, Le.up fD⟩))
end Ly
set_option Elab.async false
set_option linter.all false
set_option maxRecDepth 100000
set_option maxHeartbeats 2000000
/-! Ly4: operations on data. -/
namespace Ly
open PySem L2
open Lx (Le inS cutL rAddU op_addU rEqU rNeU op_eqU op_neU rInU op_inU op_notInU rSlU sl_U vdec_int vdec_str vdec_bl)

/-! ### plain data for == and repr -/
mutual
def toP : D → Option PyData
  | .non => some .none
  | .bl b => some (.bool b)
  | .int i => some (.int i)
  | .str x => some (.str x)
  | .lst xs => (toPs xs).map .list
  | .tup xs => (toPs xs).map .tuple
  | .obj _ _ => none
  | .pen => none
  | .sct _ => none
  | .dct _ => none
  | .mu _ => none
  | .err _ _ => none
def toPs : List D → Option (List PyData)
  | [] => some []
  | d :: ds => (toP d).bind fun p => (toPs ds).map fun ps => p :: ps
end
section
variable {K : PySem.W.Frag} {c : Cg} {al : List Addr} {F H : Hp}
mutual
theorem Rep.dp (e : Le F H) : ∀ {v : V} {d : D} {p : PyData}, Rep K c al F v d → toP d = some p → Dp K H v p
  | _, _, _, .non, h => by unfold toP at h; cases h; exact .non
  | _, _, _, .bl b, h => by unfold toP at h; cases h; exact .bl b
  | _, _, _, .int i, h => by unfold toP at h; cases h; exact .int i
  | _, _, _, .str x, h => by unfold toP at h; cases h; exact .str x
  | _, _, _, .lst (ds := ds) q r, h => by
    unfold toP at h
    cases e1 : toPs ds with
    | none => rw [e1] at h; cases h
    | some ps => rw [e1] at h; cases h; exact .lst (SqL.of (e _ _ q)) (RepL.dp e r e1)
  | _, _, _, .tup (ds := ds) q r, h => by
    unfold toP at h
    cases e1 : toPs ds with
    | none => rw [e1] at h; cases h
    | some ps => rw [e1] at h; cases h; exact .tup (SqT.of (e _ _ q)) (RepL.dp e r e1)
  | _, _, _, .obj _ _ _ _, h => by unfold toP at h; cases h
  | _, _, _, .dct _ _, h => by unfold toP at h; cases h
  | _, _, _, .mu _, h => by unfold toP at h; cases h
  | _, _, _, .pen, h => by unfold toP at h; cases h
  | _, _, _, .sct _, h => by unfold toP at h; cases h
theorem RepL.dp (e : Le F H) : ∀ {vs : List V} {ds : List D} {ps : List PyData}, RepL K c al F vs ds → toPs ds = some ps → DpAll K H vs ps
  | _, _, _, .nil, h => by unfold toPs at h; cases h; exact .nil
  | _, _, _, .cons (d := d) (ds := ds) a r, h => by
    unfold toPs at h
    cases e1 : toP d with
    | none => rw [e1] at h; cases h
    | some p =>
      rw [e1] at h
      cases e2 : toPs ds with
      | none => rw [e2] at h; cases h
      | some ps => rw [e2] at h; cases h; exact .cons (Rep.dp e a e1) (RepL.dp e r e2)
end
end

/-! ### arithmetic, + * of texts and lists -/
@[reducible] def addD : D → D → W D
  | .int i, .int j => W.ret (.int (i + j))
  | .str x, .str y => W.need (x.length + y.length ≤ sizeLine) (W.ret (.str (x ++ y)))
  | .lst xs, .lst ys => W.need (xs.length + ys.length ≤ sizeLine) (W.ret (.lst (xs ++ ys)))
  | _, _ => W.stuck
@[reducible] def subD : D → D → W D
  | .int i, .int j => W.ret (.int (i - j))
  | _, _ => W.stuck
@[reducible] def mulD : D → D → W D
  | .int i, .int j => W.need (CMul i j) (W.ret (.int (i * j)))
  | _, _ => W.stuck
@[reducible] def modD : D → D → W D
  | .int i, .int j => W.need (0 < j) (W.ret (.int (i % j)))
  | _, _ => W.stuck
@[reducible] def fdivD : D → D → W D
  | .int i, .int j => W.need (CDiv i j) (W.ret (.int (i / j)))
  | _, _ => W.stuck
@[reducible] def negD : D → W D
  | .int i => W.ret (.int (-i))
  | _ => W.stuck
section
variable {X : Cx} {K : PySem.W.Frag}
theorem lo_add : LO2 K rAddU addD := fun c w s v u x y Q E o rx ry h => by
  cases rx with
  | int i => cases ry with
    | int j => exact .inl ⟨i, j, rfl, rfl, h _ (Go.refl ..) o _ (.int _)⟩
    | _ => exact h.elim
  | str i => cases ry with
    | str j => exact .inr (.inl ⟨i, j, rfl, rfl, h.1, h.2 _ (Go.refl ..) o _ (.str _)⟩)
    | _ => exact h.elim
  | lst a r => cases ry with
    | lst b q =>
      refine .inr (.inr ⟨_, _, _, _, rfl, rfl, o.fro _ _ a, o.fro _ _ b, by rw [r.len, q.len]; exact h.1, fun p hp => ?_⟩)
      obtain ⟨o2, g2⟩ := o.lay (o := .lst (_ ++ _)) hp notOwn.1
      exact h.2 _ g2 o2 (.ref p) (.lst upd_same ((r.up g2.sub).app (q.up g2.sub)))
    | _ => exact h.elim
  | _ => exact h.elim
theorem lo_sub : LO2 K (rI0 fun i j => .int (i - j)) subD := fun c w s v u x y Q E o rx ry h => by
  cases rx with
  | int i => cases ry with
    | int j => exact ⟨i, j, rfl, rfl, h _ (Go.refl ..) o _ (.int _)⟩
    | _ => exact h.elim
  | _ => exact h.elim
theorem lo_mul : LO2 K (rI CMul fun i j => .int (i * j)) mulD := fun c w s v u x y Q E o rx ry h => by
  cases rx with
  | int i => cases ry with
    | int j => exact ⟨i, j, rfl, rfl, h.1, h.2 _ (Go.refl ..) o _ (.int _)⟩
    | _ => exact h.elim
  | _ => exact h.elim
theorem lo_mod : LO2 K (rI (fun _ j => 0 < j) fun i j => .int (i % j)) modD := fun c w s v u x y Q E o rx ry h => by
  cases rx with
  | int i => cases ry with
    | int j => exact ⟨i, j, rfl, rfl, h.1, h.2 _ (Go.refl ..) o _ (.int _)⟩
    | _ => exact h.elim
  | _ => exact h.elim
theorem lo_fdiv : LO2 K (rI CDiv fun i j => .int (i / j)) fdivD := fun c w s v u x y Q E o rx ry h => by
  cases rx with
  | int i => cases ry with
    | int j => exact ⟨i, j, rfl, rfl, h.1, h.2 _ (Go.refl ..) o _ (.int _)⟩
    | _ => exact h.elim
  | _ => exact h.elim
theorem lo_neg : LO1 K (rU fun i => .int (-i)) negD := fun c w s v x Q E o rx h => by
  cases rx with
  | int i => exact ⟨i, rfl, h _ (Go.refl ..) o _ (.int _)⟩
  | _ => exact h.elim

/-! ### comparisons -/
@[reducible] def eqD : D → D → W D
  | .int i, .int j => W.ret (.bl (decide (i = j)))
  | .str x, .str y => W.ret (.bl (decide (x = y)))
  | .bl a, .bl b => W.ret (.bl (decide (a = b)))
  | x, y => match toP x, toP y with
    | some a, some b => W.need (SeqAt.shaped a = true ∧ SeqAt.shaped b = true) (W.ret (.bl (PyData.eqv a b)))
    | _, _ => W.stuck
@[reducible] def neD : D → D → W D
  | .int i, .int j => W.ret (.bl (!decide (i = j)))
  | .str x, .str y => W.ret (.bl (!decide (x = y)))
  | .bl a, .bl b => W.ret (.bl (!decide (a = b)))
  | x, y => match toP x, toP y with
    | some a, some b => W.need (SeqAt.shaped a = true ∧ SeqAt.shaped b = true) (W.ret (.bl (!PyData.eqv a b)))
    | _, _ => W.stuck
theorem eq_gen {c : Cg} {w : Wd} {s : S} {v u : V} {x y : D} {Q : VK} {E : Xn → Wd → S → Prop} (o : Ok K c w s) (rx : Rep K c w.al w.F v x) (ry : Rep K c w.al w.F u y)
    (h : Den K c (match toP x, toP y with | some a, some b => W.need (SeqAt.shaped a = true ∧ SeqAt.shaped b = true) (W.ret (D.bl (PyData.eqv a b))) | _, _ => (W.stuck : W D)) w s (qV K c Q) E) : rEqU K v u w.H Q := by
  cases ex : toP x with
  | none => rw [ex] at h; exact h.elim
  | some a => cases ey : toP y with
    | none => rw [ex, ey] at h; exact h.elim
    | some b =>
      rw [ex, ey] at h
      exact .inr ⟨a, b, rx.dp o.fro ex, ry.dp o.fro ey, h.1.1, h.1.2, h.2 _ (Go.refl ..) o _ (.bl _)⟩
theorem ne_gen {c : Cg} {w : Wd} {s : S} {v u : V} {x y : D} {Q : VK} {E : Xn → Wd → S → Prop} (o : Ok K c w s) (rx : Rep K c w.al w.F v x) (ry : Rep K c w.al w.F u y)
    (h : Den K c (match toP x, toP y with | some a, some b => W.need (SeqAt.shaped a = true ∧ SeqAt.shaped b = true) (W.ret (D.bl (!PyData.eqv a b))) | _, _ => (W.stuck : W D)) w s (qV K c Q) E) : rNeU K v u w.H Q := by
  cases ex : toP x with
  | none => rw [ex] at h; exact h.elim
  | some a => cases ey : toP y with
    | none => rw [ex, ey] at h; exact h.elim
    | some b =>
      rw [ex, ey] at h
      exact .inr ⟨a, b, rx.dp o.fro ex, ry.dp o.fro ey, h.1.1, h.1.2, h.2 _ (Go.refl ..) o _ (.bl _)⟩
theorem lo_eq : LO2 K (rEqU K) eqD := fun c w s v u x y Q E o rx ry h => by
  have r2 := ry
  cases rx with
  | int i => cases ry with
    | int j => exact .inl ⟨rfl, by rw [vdec_int]; exact h _ (Go.refl ..) o _ (.bl _)⟩
    | _ => exact eq_gen o (.int i) r2 h
  | str i => cases ry with
    | str j => exact .inl ⟨rfl, by rw [vdec_str]; exact h _ (Go.refl ..) o _ (.bl _)⟩
    | _ => exact eq_gen o (.str i) r2 h
  | bl i => cases ry with
    | bl j => exact .inl ⟨rfl, by rw [vdec_bl]; exact h _ (Go.refl ..) o _ (.bl _)⟩
    | _ => exact eq_gen o (.bl i) r2 h
  | non => exact eq_gen o .non ry (by cases ry <;> exact h)
  | lst a r => exact eq_gen o (.lst a r) ry (by cases ry <;> exact h)
  | tup a r => exact eq_gen o (.tup a r) ry (by cases ry <;> exact h)
  | obj a u z r => exact eq_gen o (.obj a u z r) ry (by cases ry <;> exact h)
  | dct a r => exact eq_gen o (.dct a r) ry (by cases ry <;> exact h)
  | mu a => exact eq_gen o (.mu a) ry (by cases ry <;> exact h)
  | pen => exact eq_gen o .pen ry (by cases ry <;> exact h)
  | sct a => exact eq_gen o (.sct a) ry (by cases ry <;> exact h)
  | err a k r => exact eq_gen o (.err a k r) ry (by cases ry <;> exact h)
  | err0 a => exact eq_gen o (.err0 a) ry (by cases ry <;> exact h)
theorem lo_ne : LO2 K (rNeU K) neD := fun c w s v u x y Q E o rx ry h => by
  have r2 := ry
  cases rx with
  | int i => cases ry with
    | int j => exact .inl ⟨rfl, by rw [vdec_int]; exact h _ (Go.refl ..) o _ (.bl _)⟩
    | _ => exact ne_gen o (.int i) r2 h
  | str i => cases ry with
    | str j => exact .inl ⟨rfl, by rw [vdec_str]; exact h _ (Go.refl ..) o _ (.bl _)⟩
    | _ => exact ne_gen o (.str i) r2 h
  | bl i => cases ry with
    | bl j => exact .inl ⟨rfl, by rw [vdec_bl]; exact h _ (Go.refl ..) o _ (.bl _)⟩
    | _ => exact ne_gen o (.bl i) r2 h
  | non => exact ne_gen o .non ry (by cases ry <;> exact h)
  | lst a r => exact ne_gen o (.lst a r) ry (by cases ry <;> exact h)
  | tup a r => exact ne_gen o (.tup a r) ry (by cases ry <;> exact h)
  | obj a u z r => exact ne_gen o (.obj a u z r) ry (by cases ry <;> exact h)
  | dct a r => exact ne_gen o (.dct a r) ry (by cases ry <;> exact h)
  | mu a => exact ne_gen o (.mu a) ry (by cases ry <;> exact h)
  | pen => exact ne_gen o .pen ry (by cases ry <;> exact h)
  | sct a => exact ne_gen o (.sct a) ry (by cases ry <;> exact h)
  | err a k r => exact ne_gen o (.err a k r) ry (by cases ry <;> exact h)
  | err0 a => exact ne_gen o (.err0 a) ry (by cases ry <;> exact h)
@[reducible] def cmpD (c : Int → Int → Bool) : D → D → W D
  | .int i, .int j => W.ret (.bl (c i j))
  | _, _ => W.stuck
@[reducible] def ltD : D → D → W D := cmpD fun i j => decide (i < j)
@[reducible] def leD : D → D → W D := cmpD fun i j => decide (i ≤ j)
@[reducible] def gtD : D → D → W D := cmpD fun i j => decide (j < i)
@[reducible] def geD : D → D → W D := cmpD fun i j => decide (j ≤ i)
theorem lo_cmp {c : Int → Int → Bool} : LO2 K (rI0 fun i j => .bl (c i j)) (cmpD c) := fun c w s v u x y Q E o rx ry h => by
  cases rx with
  | int i => cases ry with
    | int j => exact ⟨i, j, rfl, rfl, h _ (Go.refl ..) o _ (.bl _)⟩
    | _ => exact h.elim
  | _ => exact h.elim
/-! is None -/
@[reducible] def isND : D → D → W D
  | .non, .non => W.ret (.bl true)
  | _, .non => W.ret (.bl false)
  | _, _ => W.stuck
@[reducible] def notND : D → D → W D
  | .non, .non => W.ret (.bl false)
  | _, .non => W.ret (.bl true)
  | _, _ => W.stuck
theorem lo_isN : LO2 K (fun x y H Q => y = .non ∧ Q (.bl (decide (x = .non))) H) isND := fun c w s v u x y Q E o rx ry h => by
  cases ry with
  | non => cases rx <;> first
    | exact ⟨rfl, by rw [decide_eq_true (by rfl)]; exact h _ (Go.refl ..) o _ (.bl _)⟩
    | exact ⟨rfl, by rw [decide_eq_false (by intro z; cases z)]; exact h _ (Go.refl ..) o _ (.bl _)⟩
  | _ => cases rx <;> exact h.elim
theorem lo_notN : LO2 K (fun x y H Q => y = .non ∧ Q (.bl (!decide (x = .non))) H) notND := fun c w s v u x y Q E o rx ry h => by
  cases ry with
  | non => cases rx <;> first
    | exact ⟨rfl, by rw [decide_eq_true (by rfl)]; exact h _ (Go.refl ..) o _ (.bl _)⟩
    | exact ⟨rfl, by rw [decide_eq_false (by intro z; cases z)]; exact h _ (Go.refl ..) o _ (.bl _)⟩
  | _ => cases rx <;> exact h.elim

/-! in -/
def flatD : D → Bool
  | .non => true | .bl _ => true | .int _ => true | .str _ => true
  | _ => false
def eqF : D → D → Bool
  | .non, .non => true
  | .bl a, .bl b => a == b
  | .bl a, .int b => (if a then 1 else 0) == b
  | .int a, .bl b => a == (if b then 1 else 0)
  | .int a, .int b => a == b
  | .str a, .str b => a == b
  | _, _ => false
def inF (x : D) (ys : List D) : Bool := ys.any fun y => eqF y x
@[reducible] def inD (neg : Bool) : D → D → W D
  | .str x, .str y => W.ret (.bl (if neg then !inS x y else inS x y))
  | x, .lst ys => W.need (flatD x = true ∧ ys.all flatD = true) (W.ret (.bl (if neg then !inF x ys else inF x ys)))
  | x, .tup ys => W.need (flatD x = true ∧ ys.all flatD = true) (W.ret (.bl (if neg then !inF x ys else inF x ys)))
  | _, _ => W.stuck
theorem flat_of {c : Cg} {al : List Addr} {F : Hp} {v : V} {d : D} (r : Rep K c al F v d) (h : flatD d = true) : flatV v = true := by
  cases r <;> first | rfl | cases h
theorem flats_of {c : Cg} {al : List Addr} {F : Hp} : ∀ {vs : List V} {ds : List D}, RepL K c al F vs ds → ds.all flatD = true → vs.all flatV = true
  | _, _, .nil, _ => rfl
  | _, _, .cons a r, h => by
    rw [List.all_cons, Bool.and_eq_true] at h ⊢
    exact ⟨flat_of a h.1, flats_of r h.2⟩
theorem eqF_of {c : Cg} {al : List Addr} {F : Hp} {v w : V} {x y : D} (rx : Rep K c al F v x) (ry : Rep K c al F w y) (hx : flatD x = true) (hy : flatD y = true) : eqV v w = eqF x y := by
  cases rx <;> first | (cases ry <;> first | rfl | cases hy) | cases hx
theorem inF_of {c : Cg} {al : List Addr} {F : Hp} {v : V} {x : D} (rx : Rep K c al F v x) (hx : flatD x = true) : ∀ {vs : List V} {ds : List D}, RepL K c al F vs ds → ds.all flatD = true → inV v vs = inF x ds
  | _, _, .nil, _ => rfl
  | _, _, .cons a r, h => by
    rw [List.all_cons, Bool.and_eq_true] at h
    unfold inV inF
    rw [List.any_cons, List.any_cons, eqF_of a rx h.1 hx]
    exact congrArg _ (inF_of rx hx r h.2)
theorem lo_in {neg : Bool} : LO2 K (rInU K neg) (inD neg) := fun c w s v u x y Q E o rx ry h => by
  cases ry with
  | str j => cases rx with
    | str i => exact .inl ⟨i, j, rfl, rfl, h _ (Go.refl ..) o _ (.bl _)⟩
    | _ => exact h.elim
  | @lst _ _ ys b q =>
    have h' : Den K c (W.need (flatD x = true ∧ ys.all flatD = true) (W.ret (D.bl (if neg then !inF x ys else inF x ys)))) w s (qV K c Q) E := by cases rx <;> exact h
    exact .inr ⟨_, _, rfl, .inl (SqL.of (o.fro _ _ b)), flat_of rx h'.1.1, flats_of q h'.1.2, by rw [inF_of rx h'.1.1 q h'.1.2]; exact h'.2 _ (Go.refl ..) o _ (.bl _)⟩
  | @tup _ _ ys b q =>
    have h' : Den K c (W.need (flatD x = true ∧ ys.all flatD = true) (W.ret (D.bl (if neg then !inF x ys else inF x ys)))) w s (qV K c Q) E := by cases rx <;> exact h
    exact .inr ⟨_, _, rfl, .inr (SqT.of (o.fro _ _ b)), flat_of rx h'.1.1, flats_of q h'.1.2, by rw [inF_of rx h'.1.1 q h'.1.2]; exact h'.2 _ (Go.refl ..) o _ (.bl _)⟩
  | _ => cases rx <;> exact h.elim

/-! ### subscripts -/
@[reducible] def ixD : D → D → W D
  | .lst xs, .int i => match atI xs i with | some d => W.ret d | none => W.stuck
  | .tup xs, .int i => match atI xs i with | some d => W.ret d | none => W.stuck
  | .str z, .int i => W.need (z.length ≤ sizeLine) (match atI z.cps.toList i with | some c => W.ret (.str ⟨#[c]⟩) | none => W.stuck)
  | _, _ => W.stuck
theorem RepL.atI {c : Cg} {al : List Addr} {F : Hp} {vs : List V} {ds : List D} {i : Int} {d : D} (r : RepL K c al F vs ds) (h : L2.atI ds i = some d) : ∃ v, L2.atI vs i = some v ∧ Rep K c al F v d := by
  unfold L2.atI at h ⊢
  rw [r.len]
  cases e : ixN ds.length i with
  | none => rw [e] at h; cases h
  | some j => rw [e] at h; exact r.get h
theorem lo_ix : LO2 K (rIx K) ixD := fun c w s v u x y Q E o rx ry h => by
  cases ry with
  | int i => cases rx with
    | lst a r =>
      simp only [ixD] at h
      split at h
      · rename_i d e
        obtain ⟨z, hu, ru⟩ := r.atI e
        exact .inl ⟨_, _, i, z, rfl, rfl, SqL.of (o.fro _ _ a), hu, h _ (Go.refl ..) o _ ru⟩
      · exact h.elim
    | tup a r =>
      simp only [ixD] at h
      split at h
      · rename_i d e
        obtain ⟨z, hu, ru⟩ := r.atI e
        exact .inr (.inl ⟨_, _, i, z, rfl, rfl, SqT.of (o.fro _ _ a), hu, h _ (Go.refl ..) o _ ru⟩)
      · exact h.elim
    | str z =>
      obtain ⟨h1, h⟩ := h
      split at h
      · rename_i c e
        exact .inr (.inr ⟨z, i, c, rfl, rfl, h1, e, h _ (Go.refl ..) o _ (.str _)⟩)
      · exact h.elim
    | _ => exact h.elim
  | _ => cases rx <;> exact h.elim
/-! slices -/
theorem RepL.cut {c : Cg} {al : List Addr} {F : Hp} {vs : List V} {ds : List D} (r : RepL K c al F vs ds) (lo hi : Option Int) : RepL K c al F (cutV vs lo hi) (cutL ds lo hi) := by
  unfold cutV cutL
  rw [r.len]
  exact (r.drop _).take _
@[reducible] def slD : D → Option Int → Option Int → W D
  | .str z, lo, hi => W.need (z.length ≤ sizeLine) (W.ret (.str (cutS z lo hi)))
  | .lst xs, lo, hi => W.ret (.lst (cutL xs lo hi))
  | .tup xs, lo, hi => W.need (¬ (HT.sIx xs.length 0 lo = 0 ∧ HT.sIx xs.length xs.length hi = xs.length)) (W.ret (.tup (cutL xs lo hi)))
  | _, _, _ => W.stuck
def LP (K : PySem.W.Frag) (to : XK → TO) (f : List Sl → W (Option Int)) : Prop := ∀ (c : Cg) (w : Wd) (s : S) (σ : L2.St) (δ : List Sl) (Q : Option Int → Hp → Prop) (E : XK), Ok K c w s → Slo K c w σ δ →
  Den K c (f δ) w s (fun b w' _ => Q b w'.H) (xE K c E) → to E σ w.H Q
@[reducible] def dNoPart : List Sl → W (Option Int) := fun _ => W.ret none
@[reducible] def dPart (f : List Sl → W D) : List Sl → W (Option Int) := fun δ => (f δ).bind fun d => match d with | .int i => W.ret (some i) | _ => W.stuck
theorem lp_none : LP K (fun _ => tNoPart) dNoPart := fun c w s σ δ Q E o sl h => h.ret o
theorem lp_some {te : XK → TE} {f : List Sl → W D} (he : LE K te f) : LP K (fun E => tPart (te E)) (dPart f) := fun c w s σ δ Q E o sl h =>
  he c w s σ δ _ E o sl (h.bind.mono fun x w1 s1 g1 o1 q v r1 => by
    cases r1 with
    | int i => exact ⟨i, rfl, q.ret o1⟩
    | _ => exact q.elim)
@[reducible] def dSl (f : List Sl → W D) (a b : List Sl → W (Option Int)) : List Sl → W D := fun δ => (f δ).bind fun x => (a δ).bind fun lo => (b δ).bind fun hi => slD x lo hi
theorem le_sl {te : XK → TE} {ta tb : XK → TO} {f : List Sl → W D} {a b : List Sl → W (Option Int)} (he : LE K te f) (ha : LP K ta a) (hb : LP K tb b) : LE K (fun E => tSl (rSlU K) (te E) (ta E) (tb E)) (dSl f a b) := fun c w s σ δ Q E o sl h =>
  he c w s σ δ _ E o sl (h.bind.mono fun x w1 s1 g1 o1 q v r1 => ha c w1 s1 σ δ _ E o1 (sl.go g1) (q.bind.mono fun lo w2 s2 g2 o2 q2 => hb c w2 s2 σ δ _ E o2 ((sl.go g1).go g2) (q2.bind.mono fun hi w3 s3 g3 o3 q3 => by
    have r3 := (r1.up g2.sub).up g3.sub
    cases r3 with
    | str z => exact .inl ⟨z, rfl, q3.1, q3.2 _ (Go.refl ..) o3 _ (.str _)⟩
    | lst e r =>
      refine .inr (.inl ⟨_, _, rfl, SqL.of (o3.fro _ _ e), fun p hp => ?_⟩)
      obtain ⟨o4, g4⟩ := o3.lay (o := .lst (cutV _ lo hi)) hp notOwn.1
      exact q3 _ g4 o4 (.ref p) (.lst upd_same ((r.cut lo hi).up g4.sub))
    | tup e r =>
      refine .inr (.inr ⟨_, _, rfl, SqT.of (o3.fro _ _ e), by rw [r.len]; exact q3.1, fun p hp => ?_⟩)
      obtain ⟨o4, g4⟩ := o3.lay (o := .tup (cutV _ lo hi)) hp (fun _ z => by cases z)
      exact q3.2 _ g4 o4 (.ref p) (.tup upd_same ((r.cut lo hi).up g4.sub))
    | _ => exact q3.elim)))

/-! ### built-in functions -/
@[reducible] def lenD : List D → W D
  | [.str z] => W.need (z.length ≤ sizeLine) (W.ret (.int z.length))
  | [.lst xs] => W.ret (.int xs.length)
  | [.tup xs] => W.ret (.int xs.length)
  | [.sct xs] => W.ret (.int xs.length)
  | _ => W.stuck
theorem lo_len : LOn K (fun xs H Q => ∃ x n, xs = [x] ∧ LenV K x H n ∧ Q (.int n) H) lenD := fun c w s vs xs Q E o r h => by
  unfold lenD at h
  split at h
  · obtain ⟨v, rfl, rv⟩ := r.one
    cases rv
    exact ⟨_, _, rfl, ⟨h.1, rfl⟩, h.2 _ (Go.refl ..) o _ (.int _)⟩
  · obtain ⟨v, rfl, rv⟩ := r.one
    cases rv with
    | lst a q => exact ⟨_, _, rfl, .inl ⟨_, SqL.of (o.fro _ _ a), q.len.symm⟩, h _ (Go.refl ..) o _ (.int _)⟩
  · obtain ⟨v, rfl, rv⟩ := r.one
    cases rv with
    | tup a q => exact ⟨_, _, rfl, .inr ⟨_, SqT.of (o.fro _ _ a), q.len.symm⟩, h _ (Go.refl ..) o _ (.int _)⟩
  · obtain ⟨v, rfl, rv⟩ := r.one
    cases rv with
    | sct a => exact ⟨_, _, rfl, .inl ⟨_, o.fro.sqL a, by simp⟩, h _ (Go.refl ..) o _ (.int _)⟩
  · exact h.elim
@[reducible] def listD : List D → W D
  | [.lst xs] => W.ret (.lst xs)
  | [.tup xs] => W.ret (.lst xs)
  | _ => W.stuck
theorem lo_list : LOn K (fun xs H Q => ∃ p ys, xs = [.ref p] ∧ (SqL K H p ys ∨ SqT K H p ys) ∧ ∀ l, H l = none → Q (.ref l) (upd H l (.lst ys))) listD := fun c w s vs xs Q E o r h => by
  unfold listD at h
  split at h
  · obtain ⟨v, rfl, rv⟩ := r.one
    cases rv with
    | lst a q =>
      refine ⟨_, _, rfl, .inl (SqL.of (o.fro _ _ a)), fun l hl => ?_⟩
      obtain ⟨o4, g4⟩ := o.lay (o := .lst _) hl notOwn.1
      exact h _ g4 o4 (.ref l) (.lst upd_same (q.up g4.sub))
  · obtain ⟨v, rfl, rv⟩ := r.one
    cases rv with
    | tup a q =>
      refine ⟨_, _, rfl, .inr (SqT.of (o.fro _ _ a)), fun l hl => ?_⟩
      obtain ⟨o4, g4⟩ := o.lay (o := .lst _) hl notOwn.1
      exact h _ g4 o4 (.ref l) (.lst upd_same (q.up g4.sub))
  · exact h.elim
/-- the truth values of a list -/
def bools : List D → Option (List Bool)
  | [] => some []
  | .bl b :: r => (bools r).map (b :: ·)
  | _ => none
theorem bools_rep {c : Cg} {al : List Addr} {F : Hp} : ∀ {vs : List V} {ds : List D} {bs : List Bool}, RepL K c al F vs ds → bools ds = some bs → vs = bs.map V.bl
  | _, _, _, .nil, h => by cases h; rfl
  | _, _, _, .cons (d := d) (ds := ds) a r, h => by
    cases a with
    | bl b =>
      unfold bools at h
      cases e : bools ds with
      | none => rw [e] at h; cases h
      | some bs => rw [e] at h; cases h; rw [bools_rep r e]; rfl
    | _ => unfold bools at h; cases h
@[reducible] def allD : List D → W D
  | [.lst xs] => match bools xs with | some bs => W.ret (.bl (bs.all id)) | none => W.stuck
  | _ => W.stuck
@[reducible] def anyD : List D → W D
  | [.lst xs] => match bools xs with | some bs => W.ret (.bl (bs.any id)) | none => W.stuck
  | _ => W.stuck
theorem lo_all : LOn K (rAll K) allD := fun c w s vs xs Q E o r h => by
  unfold allD at h
  split at h
  · obtain ⟨v, rfl, rv⟩ := r.one
    split at h
    · rename_i bs e
      cases rv with
      | lst a q => exact ⟨_, bs, rfl, by rw [← bools_rep q e]; exact SqL.of (o.fro _ _ a), h _ (Go.refl ..) o _ (.bl _)⟩
    · exact h.elim
  · exact h.elim
theorem lo_any : LOn K (rAny K) anyD := fun c w s vs xs Q E o r h => by
  unfold anyD at h
  split at h
  · obtain ⟨v, rfl, rv⟩ := r.one
    split at h
    · rename_i bs e
      cases rv with
      | lst a q => exact ⟨_, bs, rfl, by rw [← bools_rep q e]; exact SqL.of (o.fro _ _ a), h _ (Go.refl ..) o _ (.bl _)⟩
    · exact h.elim
  · exact h.elim
@[reducible] def absD : List D → W D
  | [.int i] => W.ret (.int (if i < 0 then -i else i))
  | _ => W.stuck
theorem lo_abs : LOn K (fun xs H Q => ∃ i, xs = [.int i] ∧ Q (.int (if i < 0 then -i else i)) H) absD := fun c w s vs xs Q E o r h => by
  unfold absD at h
  split at h
  · exact ⟨_, r.int1, h _ (Go.refl ..) o _ (.int _)⟩
  · exact h.elim

/-! ### methods of texts -/
def LOm (K : PySem.W.Frag) (r : V → List V → Hp → VK → Prop) (g : Str → List D → W D) : Prop := ∀ (c : Cg) (w : Wd) (s : S) (z : Str) (vs : List V) (xs : List D) (Q : VK) (E : Xn → Wd → S → Prop), Ok K c w s → RepL K c w.al w.F vs xs → Den K c (g z xs) w s (qV K c Q) E → r (.str z) vs w.H Q
@[reducible] def dMs (g : Str → List D → W D) (fo : List Sl → W D) (f : List Sl → W (List D)) : List Sl → W D := fun δ => (fo δ).bind fun x => match x with | .str z => (f δ).bind (g z) | _ => W.stuck
theorem le_ms {r : V → List V → Hp → VK → Prop} {g : Str → List D → W D} {to : XK → TE} {t : XK → TA} {fo : List Sl → W D} {f : List Sl → W (List D)} (hr : LOm K r g) (ho : LE K to fo) (ha : LA K t f) : LE K (fun E => tBM K "str" r (to E) (t E)) (dMs g fo f) := fun c w s σ δ Q E o sl h =>
  ho c w s σ δ _ E o sl (h.bind.mono fun x w1 s1 g1 o1 q v r1 => by
    cases r1 with
    | str z => exact ⟨rfl, ha c w1 s1 σ δ _ E o1 (sl.go g1) ((show Den K c ((f δ).bind (g z)) w1 s1 _ _ from q).bind.mono fun ys w2 s2 g2 o2 q2 ws r2 => hr c w2 s2 z ws ys Q _ o2 r2 q2)⟩
    | _ => exact q.elim)
@[reducible] def swD (f : Str → Str → Bool) : Str → List D → W D := fun z xs => match xs with | [.str y] => W.ret (.bl (f z y)) | _ => W.stuck
theorem lo_sw {f : Str → Str → Bool} : LOm K (fun x xs H Q => ∃ a b, x = .str a ∧ xs = [.str b] ∧ Q (.bl (f a b)) H) (swD f) := fun c w s z vs xs Q E o r h => by
  unfold swD at h
  split at h
  · obtain ⟨v, rfl, rv⟩ := r.one
    cases rv
    exact ⟨z, _, rfl, rfl, h _ (Go.refl ..) o _ (.bl _)⟩
  · exact h.elim
def txts : List D → Option (List Str)
  | [] => some []
  | .str b :: r => (txts r).map (b :: ·)
  | _ => none
theorem txts_rep {c : Cg} {al : List Addr} {F : Hp} : ∀ {vs : List V} {ds : List D} {bs : List Str}, RepL K c al F vs ds → txts ds = some bs → vs = bs.map V.str
  | _, _, _, .nil, h => by cases h; rfl
  | _, _, _, .cons (d := d) (ds := ds) a r, h => by
    cases a with
    | str b =>
      unfold txts at h
      cases e : txts ds with
      | none => rw [e] at h; cases h
      | some bs => rw [e] at h; cases h; rw [txts_rep r e]; rfl
    | _ => unfold txts at h; cases h
@[reducible] def joinD : Str → List D → W D := fun z xs => match xs with
  | [.lst ds] => match txts ds with
    | some ys => W.need ((ys.map (·.length)).sum + ys.length * z.length ≤ 16777216) (W.ret (.str (Txt.join z ys)))
    | none => W.stuck
  | _ => W.stuck
theorem lo_join : LOm K (fun x xs H Q => ∃ a p, ∃ ys : List Str, x = .str a ∧ xs = [.ref p] ∧ (SqL K H p (ys.map V.str) ∨ SqT K H p (ys.map V.str)) ∧ (ys.map (·.length)).sum + ys.length * a.length ≤ 16777216 ∧ Q (.str (Txt.join a ys)) H) joinD := fun c w s z vs xs Q E o r h => by
  unfold joinD at h
  split at h
  · obtain ⟨v, rfl, rv⟩ := r.one
    split at h
    · rename_i bs e
      cases rv with
      | lst a q => exact ⟨z, _, bs, rfl, rfl, .inl (by rw [← txts_rep q e]; exact SqL.of (o.fro _ _ a)), h.1, h.2 _ (Go.refl ..) o _ (.str _)⟩
    · exact h.elim
  · exact h.elim
end
end Ly
set_option Elab.async false
set_option linter.all false
set_option maxRecDepth 100000
set_option maxHeartbeats 2000000
/-! Ly5: defs and their promises, calls, things of the store, objects: fields, properties, methods, how they are made. -/
namespace Ly
open PySem L2 PyProof.Rows
open Lx (Le)

/-! ### defs -/
def Pr (K : PySem.W.Frag) (m : Nat) (g : List D → W D) : Sp := fun vs H Q E => ∃ c w s ds, w.H = H ∧ Ok K c w s ∧ RepL K c w.al w.F vs ds ∧ ds.length = m ∧ Den K c (g ds) w s (qV K c Q) (xE K c E)
theorem Pr.len {K : PySem.W.Frag} {m : Nat} {g : List D → W D} (vs : List V) (H : Hp) (Q : VK) (E : XK) (h : Pr K m g vs H Q E) : vs.length = m := by
  obtain ⟨_, _, _, _, _, _, r, e, _⟩ := h
  rw [r.len, e]
@[reducible] def dCall (m : Nat) (g : List D → W D) (f : List Sl → W (List D)) : List Sl → W D := fun δ => (f δ).bind fun ds => W.need (ds.length = m) (g ds)
theorem le_call {K : PySem.W.Frag} {m : Nat} {g : List D → W D} {t : XK → TA} {f : List Sl → W (List D)} (ha : LA K t f) : LE K (fun E => tCall (Pr K m g) [] E (t E)) (dCall m g f) := fun c w s σ δ Q E o sl h =>
  ha c w s σ δ _ E o sl (h.bind.mono fun ds w1 s1 g1 o1 p vs r1 => ⟨c, w1, s1, ds, rfl, o1, by rw [List.append_nil]; exact r1, p.1, p.2⟩)
def startD (N : List Str) (ds : List D) : List Sl := ds.map some ++ List.replicate (N.length - ds.length) none
@[reducible] def dBody (N : List Str) (b : List Sl → W Out) : List D → W D := fun ds => (b (startD N ds)).bind fun o => match o with
  | .nx _ => W.ret .non
  | .rt d => W.ret d
  | _ => W.stuck
theorem Slo.start {K : PySem.W.Frag} {c : Cg} {w : Wd} {N : List Str} {vs : List V} {ds : List D} (r : RepL K c w.al w.F vs ds) : Slo K c w (L2.start N vs) (startD N ds) := by
  refine ⟨?_, fun j d e => ?_⟩
  · unfold L2.start startD
    rw [List.length_append, List.length_append, List.length_map, List.length_map, List.length_replicate, List.length_replicate, r.len]
  · unfold startD at e
    by_cases hj : j < (ds.map some).length
    · rw [List.getElem?_append_left hj, List.getElem?_map] at e
      cases q : ds[j]? with
      | none => rw [q] at e; cases e
      | some d' =>
        rw [q] at e; cases e
        obtain ⟨v, hv, rv⟩ := r.get q
        refine ⟨v, ?_, rv⟩
        unfold L2.start
        have hl : j < vs.length := (List.getElem?_eq_some_iff.mp hv).1
        rw [List.getElem?_append_left (by simpa using hl), List.getElem?_map, hv]
        rfl
    · rw [List.getElem?_append_right (by omega), List.getElem?_replicate] at e
      split at e <;> cases e
/-- what a def lets out is taken -/
abbrev Tk (X : Cx) (E : XK) : Prop := Takes X (fun cls d _ H => E cls d H)
theorem px {X : Cx} {E : XK} (tk : Tk X E) : Passes (L2.CX X.prog X.w) X E := fun pins σ H s e s' I h => passes_call tk (fun _ _ _ _ z => z) pins σ H s e s' I h
theorem px0 {X : Cx} : Passes (L2.CX X.prog X.w) X E0 := fun pins σ H s e s' I h => by
  obtain ⟨_, _, _, _, _, _, _, _, _, _, _, _, z⟩ := h
  exact z.elim
section
variable {P : Program} {w : World} {K : PySem.W.Frag} {mg : Str → Option Value} {base : Heap} {x qual : Str} {params : Arguments} {body : List Stmt} {scope : Scope} {dvs : List V} {kws : List (Str × V)} {f : Addr} {fd : FuncData}
theorem body_ly {N : List Str} {t : XK → TS} {b : List Sl → W Out} (hl : LS K t b) {m : Nat} {vs : List V} {H : Hp} {Q : VK} {E : XK} (h : Pr K m (dBody N b) vs H Q E) : t E { nx := fun _ H' => Q .non H', rt := Q } (L2.start N vs) H := by
  obtain ⟨c, w, s, ds, rfl, o, r, e, q⟩ := h
  refine hl c w s (L2.start N vs) (startD N ds) _ E o (.start r) (q.bind.mono fun u w1 s1 g1 o1 p => ?_)
  cases u with
  | nx δ => exact fun σ _ => p.ret o1 .non .non
  | rt d => exact fun v r1 => p.ret o1 v r1
  | bk δ => exact p.elim
  | ct δ => exact p.elim
theorem tk_of {N : List Str} {cdv : Value} {A : Around} {outer : List Env} {s : Shared} {H : Hp} {E : XK} : Tk (cxOf (L2.CX P w) P w K mg base N qual scope f cdv A outer s H E) E := takes_of rfl rfl rfl rfl
theorem fn_ly {N ps : List Str} {k : Nat} {t : XK → TS} {b : List Sl → W Out} (F : FunD K x qual params body scope dvs kws f fd) (S : FnScope N ps scope) (hl : LS K t b)
    (hb : ∀ (cdv : Value) (A : Around) (outer : List Env) (s : Shared) (H : Hp) (E : XK), Room k (A.deeper (envOfC qual scope s.heap.objs.size f cdv)) → Tk (cxOf (L2.CX P w) P w K mg base N qual scope f cdv A outer s H E) E → PSs (cxOf (L2.CX P w) P w K mg base N qual scope f cdv A outer s H E) body (t E)) :
    FnOk P w K mg base (L2.CX P w) (k + 1) f fd ps (Pr K ps.length (dBody N b)) :=
  F.ok S Pr.len fun cdv A outer s H vs Q E hr h => ⟨t E, hb cdv A outer s H E hr tk_of, body_ly hl h⟩
/-- where no repr runs -/
theorem fnG_ly {N ps : List Str} {k : Nat} {t : XK → TS} {b : List Sl → W Out} (F : FunD K x qual params body scope dvs kws f fd) (S : FnScope N ps scope) (hl : LS K t b)
    (hb : ∀ (cdv : Value) (A : Around) (outer : List Env) (s : Shared) (H : Hp) (E : XK), (A.deeper (envOfC qual scope s.heap.objs.size f cdv)).guards = some [] → Room k (A.deeper (envOfC qual scope s.heap.objs.size f cdv)) → Tk (cxOf (L2.CX P w) P w K mg base N qual scope f cdv A outer s H E) E → PSs (cxOf (L2.CX P w) P w K mg base N qual scope f cdv A outer s H E) body (t E)) :
    Lx.FnG P w K mg base (L2.CX P w) (k + 1) f fd ps (Pr K ps.length (dBody N b)) :=
  Lx.fnG_of F S Pr.len fun cdv A outer s H vs Q E hg hr h => ⟨t E, hb cdv A outer s H E hg hr tk_of, body_ly hl h⟩
end

/-! ### promises, packed -/
structure Fk (P : Program) (w : World) (K : PySem.W.Frag) (mg : Str → Option Value) (base : Heap) (k : Nat) (f : Addr) (sp : Sp) : Prop where
  ex : ∃ (fd : FuncData) (ps : List Str), FnOk P w K mg base (L2.CX P w) k f fd ps sp ∧ Binds K fd ps [] ∧ PySem.W.keepIn K (.ref f) = true
structure FkG (P : Program) (w : World) (K : PySem.W.Frag) (mg : Str → Option Value) (base : Heap) (k : Nat) (f : Addr) (sp : Sp) : Prop where
  ex : ∃ (fd : FuncData) (ps : List Str), Lx.FnG P w K mg base (L2.CX P w) k f fd ps sp ∧ Binds K fd ps [] ∧ PySem.W.keepIn K (.ref f) = true
section
variable {P : Program} {w : World} {K : PySem.W.Frag} {mg : Str → Option Value} {base : Heap} {k : Nat} {f : Addr} {sp : Sp}
theorem Fk.up {j : Nat} (F : Fk P w K mg base k f sp) (h : k ≤ j) : Fk P w K mg base j f sp := by
  obtain ⟨fd, ps, G, r⟩ := F.ex
  exact ⟨fd, ps, Lx.FnOk.up G h, r⟩
end
section
variable {X : Cx} {E : XK} {k : Nat} {f : Addr} {sp : Sp} {x m : Str} {p pos apos : Pos} {e o : Expr} {es : List Expr} {t : TA} {ta : TE}
theorem pe_fk (F : Fk X.prog X.w X.K X.mg X.base k f sp) (hr : Room k X.A) (hx : Passes (L2.CX X.prog X.w) X E) (hg : Gl X x) (hm : X.mg x = some (.ref f)) (ha : PA X (e :: es) t)
    (hdb : (x == ("__debug__" : Str)) = false := by decide) (he : starEach (e :: es) X.env = (false, eval e X.env) :: starEach es X.env := by rfl) (hpl : (backTo pos (starEach es X.env)).any (·.1) = false := by rfl) :
    PE X (.Call (.Name x p) (e :: es) [] pos) (tCall sp [] E t) := by
  obtain ⟨fd, ps, G, hb, hk⟩ := F.ex
  exact pe_call G hr hg hm hk hb .nil hx ha hdb he hpl
theorem pe_fk0 (F : Fk X.prog X.w X.K X.mg X.base k f sp) (hr : Room k X.A) (hx : Passes (L2.CX X.prog X.w) X E) (hg : Gl X x) (hm : X.mg x = some (.ref f)) (hdb : (x == ("__debug__" : Str)) = false := by decide) : PE X (.Call (.Name x p) [] [] pos) (tCall sp [] E tNil) := by
  obtain ⟨fd, ps, G, hb, hk⟩ := F.ex
  exact pe_call0 G hr hg hm hk hb .nil hx hdb
theorem pe_fkG (hgd : X.A.guards = some []) (F : FkG X.prog X.w X.K X.mg X.base k f sp) (hr : Room k X.A) (hx : Passes (L2.CX X.prog X.w) X E) (hg : Gl X x) (hm : X.mg x = some (.ref f)) (ha : PA X (e :: es) t)
    (hdb : (x == ("__debug__" : Str)) = false := by decide) (he : starEach (e :: es) X.env = (false, eval e X.env) :: starEach es X.env := by rfl) (hpl : (backTo pos (starEach es X.env)).any (·.1) = false := by rfl) :
    PE X (.Call (.Name x p) (e :: es) [] pos) (tCall sp [] E t) := by
  obtain ⟨fd, ps, G, hb, hk⟩ := F.ex
  exact Lx.pe_callG hgd G hr hg hm hk hb hx ha hdb he hpl
end

/-! ### things of the store -/
section
variable {K : PySem.W.Frag} {c : Cg} {w : Wd} {s : S} {p : Addr} {i : Nat} {o u : HO} {mo mo' : MO}
@[reducible] def Wd.add (w : Wd) (p : Addr) (o : HO) : Wd := ⟨w.al ++ [p], w.F, upd w.H p o⟩
theorem Ok.add (k : Ok K c w s) (h : w.H p = none) (nt : ∀ ps, o ≠ .tbl ps) (nx : ∀ φ, o ≠ .ext φ) (r : RepM K c (w.add p o) p mo) : Ok K c (w.add p o) ⟨s.n, s.st ++ [mo]⟩ ∧ Go c w (w.add p o) := by
  have hp := k.ne h
  have hF := k.free h
  have ha := k.out h
  have nh : ∀ {a : Addr} {u : HO}, w.H a = some u → a ≠ p := fun e => ne_of_none e h
  have na : ∀ a ∈ w.al, a ≠ p := fun a z e => ha (e ▸ z)
  have sb : Sub w.al w.F (w.al ++ [p]) w.F := ⟨⟨[p], rfl⟩, Le.refl _⟩
  have kp : ∀ {a : Addr} {u : HO}, w.H a = some u → upd w.H p o a = some u := fun e => by rw [upd_ne (nh e)]; exact e
  refine ⟨⟨fun a u e => kp (k.fro a u e), k.fpn, fun z => ?_, ?_, ?_, fun a z => ?_, k.pen.of (Le.refl _) (upd_ne hp.symm), k.tab.ext fun b u e => kp e, k.ftb, fun a z ps => ?_, fun a z φ => ?_, fun j a m e1 e2 => ?_⟩, fun a u _ _ _ e => kp e, sb, fun a u e n => (by have e : w.F a = some u := e; rw [n] at e; cases e), fun a z => ?_⟩
  · rcases List.mem_append.mp z with z | z
    · exact k.pna z
    · exact hp (List.mem_singleton.mp z).symm
  · refine List.nodup_append.mpr ⟨k.nd, by simp, fun a h1 b h2 e => ?_⟩
    rw [List.mem_singleton.mp h2] at e
    exact ha (e ▸ h1)
  · show (w.al ++ [p]).length = (s.st ++ [mo]).length
    rw [List.length_append, List.length_append, k.len]; rfl
  · show upd w.H p o a ≠ none
    rcases List.mem_append.mp z with z | z
    · rw [upd_ne (na a z)]; exact k.occ a z
    · rw [List.mem_singleton.mp z, upd_same]; exact fun y => by cases y
  · show upd w.H p o a ≠ _
    rcases List.mem_append.mp z with z | z
    · rw [upd_ne (na a z)]; exact k.atb a z ps
    · rw [List.mem_singleton.mp z, upd_same]; exact fun y => nt ps (Option.some.inj y)
  · show upd w.H p o a ≠ _
    rcases List.mem_append.mp z with z | z
    · rw [upd_ne (na a z)]; exact k.aco a z φ
    · rw [List.mem_singleton.mp z, upd_same]; exact fun y => nx φ (Option.some.inj y)
  · by_cases hj : j < w.al.length
    · have e1 : w.al[j]? = some a := by rw [← e1]; exact (List.getElem?_append_left hj).symm
      have e2 : s.st[j]? = some m := by rw [← e2]; exact (List.getElem?_append_left (by rw [← k.len]; exact hj)).symm
      exact (k.sto j a m e1 e2).of sb (upd_ne (na a (List.mem_of_getElem? e1))) fun z => z
    · have hj2 : j = w.al.length := by
        have := (List.getElem?_eq_some_iff.mp e1).1
        simp at this; omega
      subst hj2
      have e1 : (w.al ++ [p])[w.al.length]? = some a := e1
      have e2 : (s.st ++ [mo])[w.al.length]? = some m := e2
      rw [k.len] at e2
      simp at e1 e2
      subst e1 e2
      exact r
  · rcases List.mem_append.mp z with z | z
    · exact .inl z
    · exact .inr (by rw [List.mem_singleton.mp z]; exact Wd.fre_none h)
@[reducible] def Wd.ch (w : Wd) (p : Addr) (o : HO) : Wd := ⟨w.al, w.F, upd w.H p o⟩
/-- a thing of the store is changed -/
theorem Ok.ch (k : Ok K c w s) (hi : w.al[i]? = some p) (hF : w.F p = none) (nt : ∀ ps, o ≠ .tbl ps) (nx : ∀ φ, o ≠ .ext φ) (r : RepM K c (w.ch p o) p mo) : Ok K c (w.ch p o) ⟨s.n, s.st.set i mo⟩ ∧ Go c w (w.ch p o) := by
  have hm := List.mem_of_getElem? hi
  have hp : p ≠ c.pn := fun z => k.pna (z ▸ hm)
  have inj : ∀ {j : Nat}, w.al[j]? = some p → j = i := fun {j} e => by
    have hj := (List.getElem?_eq_some_iff.mp e).1
    have hi' := (List.getElem?_eq_some_iff.mp hi).1
    exact (List.getElem?_inj hj k.nd).mp (e.trans hi.symm)
  have hx : ∀ u, w.H p = some u → (∀ ps, u ≠ .tbl ps) ∧ ∀ φ, u ≠ .ext φ := fun u e => ⟨fun ps z => k.atb p hm ps (by rw [e, z]), fun φ z => k.aco p hm φ (by rw [e, z])⟩
  refine ⟨⟨fun a u e => ?_, k.fpn, k.pna, k.nd, ?_, fun a z => ?_, k.pen.of (Le.refl _) (upd_ne hp.symm), tabs_upd k.tab hx, k.ftb, fun a z ps => ?_, fun a z φ => ?_, fun j a m e1 e2 => ?_⟩, fun a u np na _ e => ?_, Sub.refl _ _, fun a u e n => (by have e : w.F a = some u := e; rw [n] at e; cases e), fun a z => .inl z⟩
  · show upd w.H p o a = some u
    have e : w.F a = some u := e
    rw [upd_ne (ne_of_none e hF)]; exact k.fro a u e
  · show w.al.length = (s.st.set i mo).length
    rw [List.length_set]; exact k.len
  · show upd w.H p o a ≠ none
    by_cases e : a = p
    · rw [e, upd_same]; exact fun y => by cases y
    · rw [upd_ne e]; exact k.occ a z
  · show upd w.H p o a ≠ _
    by_cases e : a = p
    · rw [e, upd_same]; exact fun y => nt ps (Option.some.inj y)
    · rw [upd_ne e]; exact k.atb a z ps
  · show upd w.H p o a ≠ _
    by_cases e : a = p
    · rw [e, upd_same]; exact fun y => nx φ (Option.some.inj y)
    · rw [upd_ne e]; exact k.aco a z φ
  · have e1 : w.al[j]? = some a := e1
    have e2 : (s.st.set i mo)[j]? = some m := e2
    by_cases hj : j = i
    · subst hj
      rw [hi] at e1; cases e1
      rw [List.getElem?_set_self (by rw [← k.len]; exact (List.getElem?_eq_some_iff.mp hi).1)] at e2
      cases e2
      exact r
    · rw [List.getElem?_set_ne (Ne.symm hj)] at e2
      have ne : a ≠ p := fun z => hj (inj (z ▸ e1))
      exact (k.sto j a m e1 e2).of (Sub.refl _ _) (upd_ne ne) fun z => z
  · show upd w.H p o a = some u
    rw [upd_ne (by rintro rfl; exact na hm)]; exact e
/-- a thing of the store is frozen: it changes no more -/
theorem Ok.ice (k : Ok K c w s) (hi : w.al[i]? = some p) (hF : w.F p = none) (h : w.H p = some u) : Ok K c ⟨w.al, upd w.F p u, w.H⟩ ⟨s.n, s.st.set i .gone⟩ ∧ Go c w ⟨w.al, upd w.F p u, w.H⟩ := by
  have hm := List.mem_of_getElem? hi
  have hp : p ≠ c.pn := fun z => k.pna (z ▸ hm)
  have sb : Sub w.al w.F w.al (upd w.F p u) := ⟨List.prefix_refl _, Le.up hF⟩
  have inj : ∀ {j : Nat}, w.al[j]? = some p → j = i := fun {j} e => by
    have hj := (List.getElem?_eq_some_iff.mp e).1
    exact (List.getElem?_inj hj k.nd).mp (e.trans hi.symm)
  refine ⟨⟨fun a v e => ?_, ?_, k.pna, k.nd, ?_, k.occ, k.pen.of (Le.up hF) rfl, k.tab, fun a ps => ?_, k.atb, k.aco, fun j a m e1 e2 => ?_⟩, (Go.refl c w).frz hF (.inr hm)⟩
  · have e : upd w.F p u a = some v := e
    by_cases e2 : a = p
    · subst e2; rw [upd_same] at e; cases e; exact h
    · rw [upd_ne e2] at e; exact k.fro a v e
  · show upd w.F p u c.pn = none
    rw [upd_ne hp.symm]; exact k.fpn
  · show w.al.length = (s.st.set i MO.gone).length
    rw [List.length_set]; exact k.len
  · show upd w.F p u a ≠ _
    by_cases e2 : a = p
    · subst e2; rw [upd_same]; exact fun z => k.atb _ hm ps (by rw [h, Option.some.inj z])
    · rw [upd_ne e2]; exact k.ftb a ps
  · have e1 : w.al[j]? = some a := e1
    have e2 : (s.st.set i MO.gone)[j]? = some m := e2
    by_cases hj : j = i
    · subst hj
      rw [List.getElem?_set_self (by rw [← k.len]; exact (List.getElem?_eq_some_iff.mp hi).1)] at e2
      cases e2
      trivial
    · rw [List.getElem?_set_ne (Ne.symm hj)] at e2
      have ne : a ≠ p := fun z => hj (inj (z ▸ e1))
      exact (k.sto j a m e1 e2).of sb rfl fun z => by show upd w.F p u a = none; rw [upd_ne ne]; exact z
theorem notIns {C dx : Addr} {fs : List (Str × V)} : (∀ ps, HO.ins C dx fs ≠ .tbl ps) ∧ ∀ φ, HO.ins C dx fs ≠ .ext φ := ⟨fun _ z => (by cases z), fun _ z => (by cases z)⟩
theorem notDk {kvs : List (Key × V)} : (∀ ps, HO.dK kvs ≠ .tbl ps) ∧ ∀ φ, HO.dK kvs ≠ .ext φ := ⟨fun _ z => (by cases z), fun _ z => (by cases z)⟩
end

/-! ### objects: fields, properties, methods -/
section
variable {K : PySem.W.Frag}
theorem mem_lookup {f : Str} {d : D} : ∀ {gs : List (Str × D)}, gs.lookup f = some d → f ∈ gs.map (·.1)
  | [], h => by cases h
  | (g, y) :: r, h => by
    rw [List.lookup_cons] at h
    cases q : (f == g) with
    | true => rw [eq_of_beq q]; exact List.mem_cons_self
    | false => rw [q] at h; exact List.mem_cons_of_mem _ (mem_lookup h)
/-- the class and the fields of an object -/
@[reducible] def insD : D → W (Str × List (Str × D))
  | .obj cl gs => W.ret (cl, gs)
  | .mu i => (W.get i).bind fun o => match o with | .ins cl gs => W.ret (cl, gs) | _ => W.stuck
  | _ => W.stuck
theorem ins_of {c : Cg} {w : Wd} {s : S} {v : V} {d : D} {A : Type} {f : Str × List (Str × D) → W A} {Q : A → Wd → S → Prop} {E : Xn → Wd → S → Prop} (o : Ok K c w s) (r : Rep K c w.al w.F v d) (h : Den K c ((insD d).bind f) w s Q E) :
    ∃ a cl dx fs gs, v = .ref a ∧ w.H a = some (.ins (He.ga K cl) dx fs) ∧ Cls K (He.ga K cl) ∧ (∀ x ∈ gs.map (·.1), NoAttr K (He.ga K cl) x) ∧ RepF K c w.al w.F fs gs ∧ Den K c (f (cl, gs)) w s Q E := by
  cases r with
  | @obj a dx cl fs gs hf hC hn rf => exact ⟨a, cl, dx, fs, gs, rfl, o.fro _ _ hf, hC, hn, rf, h⟩
  | @mu i a hi =>
    obtain ⟨mo, e, h⟩ := h
    have rm := o.sto i a mo hi e
    cases mo with
    | ins cl gs =>
      obtain ⟨_, dx, fs, h1, h2, h3, h4, _⟩ := rm
      exact ⟨a, cl, dx, fs, gs, rfl, h1, h2, h3, h4, h⟩
    | _ => exact h.elim
  | _ => exact h.elim
@[reducible] def dFld (f : Str) (fa : List Sl → W D) : List Sl → W D := fun δ => (fa δ).bind fun x => (insD x).bind fun p => match p.2.lookup f with | some d => W.ret d | none => W.stuck
theorem le_fld {ta : XK → TE} {fa : List Sl → W D} {f : Str} (ha : LE K ta fa) : LE K (fun E => tFld K (ta E) f) (dFld f fa) := fun c w s σ δ Q E o sl h =>
  ha c w s σ δ _ E o sl (h.bind.mono fun x w1 s1 g1 o1 p v r1 => by
    obtain ⟨a, cl, dx, fs, gs, rfl, hH, hC, hn, rf, p⟩ := ins_of o1 r1 p
    cases e : gs.lookup f with
    | none => simp only [e] at p; exact p.elim
    | some d =>
      simp only [e] at p
      obtain ⟨u, hu, ru⟩ := rf.look e
      exact ⟨a, _, dx, fs, u, rfl, hH, hC, hn f (mem_lookup e), hu, p.ret o1 u ru⟩)
abbrev Tb := List (Str × (List D → W D))
def tPropU (K : PySem.W.Frag) (tb : Tb) (E : XK) (ta : TE) : TE := fun σ H Q => ta σ H fun x H1 => ∃ a cl dx fs g, x = .ref a ∧ H1 a = some (.ins (He.ga K cl) dx fs) ∧ tb.lookup cl = some g ∧ Pr K 1 g [.ref a] H1 Q E
@[reducible] def dProp (tb : Tb) (fa : List Sl → W D) : List Sl → W D := fun δ => (fa δ).bind fun x => (insD x).bind fun p => match tb.lookup p.1 with | some g => (g [x]).calm | none => W.stuck
theorem le_prop {ta : XK → TE} {fa : List Sl → W D} {tb : Tb} (ha : LE K ta fa) : LE K (fun E => tPropU K tb E0 (ta E)) (dProp tb fa) := fun c w s σ δ Q E o sl h =>
  ha c w s σ δ _ E o sl (h.bind.mono fun x w1 s1 g1 o1 p v r1 => by
    obtain ⟨a, cl, dx, fs, gs, rfl, hH, hC, hn, rf, p⟩ := ins_of o1 r1 p
    cases e : tb.lookup cl with
    | none => simp only [e] at p; exact p.elim
    | some g =>
      simp only [e] at p
      exact ⟨a, cl, dx, fs, g, rfl, hH, e, c, w1, s1, _, rfl, o1, .cons r1 .nil, rfl, p.calm⟩)
def tMethU (K : PySem.W.Frag) (m : Str) (n : Nat) (tb : Tb) (E : XK) (ta : TE) (t : TA) : TE := fun σ H Q => ta σ H fun x H1 => ∃ a cl dx fs g, x = .ref a ∧ H1 a = some (.ins (He.ga K cl) dx fs) ∧ fs.lookup m = none ∧ tb.lookup cl = some g ∧
  t σ H1 fun vs H2 => Pr K (n + 1) g (.ref a :: vs) H2 Q E
@[reducible] def dMeth (m : Str) (n : Nat) (tb : Tb) (fa : List Sl → W D) (f : List Sl → W (List D)) : List Sl → W D := fun δ => (fa δ).bind fun x => (insD x).bind fun p => W.need (p.2.lookup m = none) (match tb.lookup p.1 with | some g => (f δ).bind fun ds => W.need (ds.length = n) (g (x :: ds)) | none => W.stuck)
theorem le_meth {ta : XK → TE} {fa : List Sl → W D} {t : XK → TA} {f : List Sl → W (List D)} {m : Str} {j : Nat} {tb : Tb} (ha : LE K ta fa) (hb : LA K t f) : LE K (fun E => tMethU K m j tb E (ta E) (t E)) (dMeth m j tb fa f) := fun c w s σ δ Q E o sl h =>
  ha c w s σ δ _ E o sl (h.bind.mono fun x w1 s1 g1 o1 p v r1 => by
    obtain ⟨a, cl, dx, fs, gs, rfl, hH, hC, hn, rf, p1, p⟩ := ins_of o1 r1 p
    cases e : tb.lookup cl with
    | none => rw [show (tb.lookup (cl, gs).1) = none from e] at p; exact p.elim
    | some g =>
      simp only [e] at p
      refine ⟨a, cl, dx, fs, g, rfl, hH, rf.noLook p1, e, hb c w1 s1 σ δ _ E o1 (sl.go g1) ((show Den K c ((f δ).bind fun ds => W.need (ds.length = j) (g (x :: ds))) w1 s1 (qV K c Q) (xE K c E) from p).bind.mono fun ds w2 s2 g2 o2 p2 vs r2 => ?_)⟩
      exact ⟨c, w2, s2, _, rfl, o2, .cons (r1.up g2.sub) r2, by rw [List.length_cons, p2.1], p2.2⟩)
end
section
variable {X : Cx}
structure MEnt (X : Cx) (E : XK) (m : Str) (n : Nat) (cl : Str) (g : List D → W D) : Prop where
  ex : ∃ (CX : CXT) (k : Nat) (f : Addr) (fd : FuncData) (ps : List Str), Cls X.K (He.ga X.K cl) ∧ Meth X.K (He.ga X.K cl) m f ∧ FnOk X.prog X.w X.K X.mg X.base CX k f fd ps (Pr X.K (n + 1) g) ∧ Room k X.A ∧ Binds X.K fd ps [] ∧ Passes CX X E
inductive MTab (X : Cx) (E : XK) (m : Str) (n : Nat) : Tb → Prop
  | nil : MTab X E m n []
  | cons {cl : Str} {g : List D → W D} {tb : Tb} : MEnt X E m n cl g → MTab X E m n tb → MTab X E m n ((cl, g) :: tb)
theorem MTab.get {E : XK} {m : Str} {n : Nat} {cl : Str} {g : List D → W D} : ∀ {tb : Tb}, MTab X E m n tb → tb.lookup cl = some g → MEnt X E m n cl g
  | _, .nil, h => by cases h
  | _, .cons (cl := d) a r, h => by
    rw [List.lookup_cons] at h
    cases q : (cl == d) with
    | true => rw [q] at h; cases h; rw [eq_of_beq q]; exact a
    | false => rw [q] at h; exact r.get h
theorem pe_methU {E : XK} {m : Str} {n : Nat} {tb : Tb} {o e : Expr} {es : List Expr} {ta : TE} {t : TA} {apos pos : Pos} {pl : Sem Bool} (T : MTab X E m n tb) (he : PE X o ta) (ha : PA X (e :: es) t)
    (hst : starEach (e :: es) X.env = (false, eval e X.env) :: starEach es X.env := by rfl) (hpl : (backTo pos (starEach es X.env)).any (·.1) = false := by rfl)
    (ht : eval (.Call (.Attribute o m apos) (e :: es) [] pos) X.env = (do
      let ov ← eval o X.env
      standAt apos.atName
      let (f, first) ← holding [ov] (getMethod ov m pl)
      callWith pos f first (backTo pos (starEach (e :: es) X.env)) (backToKw pos (keywordEach [] X.env))) := by rfl) : PE X (.Call (.Attribute o m apos) (e :: es) [] pos) (tMethU X.K m n tb E ta t) := by
  refine ⟨fun pins s σ H Q I h => ?_⟩
  refine PySem.W.methodCall_KW (pl := pl) (thn (he.run pins s σ H _ I h) fun u s1 ⟨x, H1, I1, rx, a, cl, dx, fs, g, ex, ea, l, eg, q⟩ => ?_) ht
  subst ex
  obtain rfl : u = Value.ref a := rx
  obtain ⟨CX, k, f, fd, ps, hC, hm, F, hr, hb, hx⟩ := (T.get eg).ex
  refine getmeth_ok I1 ea hC hm l ?_
  refine PySem.W.callWith_K (first := [.ref a]) (h₀ := X.base) I.ok.mod.kin hm.kp (thn (ha.run pos pins s1 σ H1 _ I1 q) fun us s2 ⟨vs, H2, I2, r, q2⟩ => ⟨I2.kIn, ?_⟩) hst hpl
  exact run_fn (us := .ref a :: us) (vs := .ref a :: vs) (dvs := []) F hr hb .nil hx I2 (.cons rfl r) (by rw [List.append_nil]; exact q2)
theorem pe_methU0 {E : XK} {m : Str} {tb : Tb} {o : Expr} {ta : TE} {apos pos : Pos} {pl : Sem Bool} (T : MTab X E m 0 tb) (he : PE X o ta)
    (ht : eval (.Call (.Attribute o m apos) [] [] pos) X.env = (do
      let ov ← eval o X.env
      standAt apos.atName
      let (f, first) ← holding [ov] (getMethod ov m pl)
      callWith pos f first (backTo pos (starEach [] X.env)) (backToKw pos (keywordEach [] X.env))) := by rfl) : PE X (.Call (.Attribute o m apos) [] [] pos) (tMethU X.K m 0 tb E ta tNil) := by
  refine ⟨fun pins s σ H Q I h => ?_⟩
  refine PySem.W.methodCall_KW (pl := pl) (thn (he.run pins s σ H _ I h) fun u s1 ⟨x, H1, I1, rx, a, cl, dx, fs, g, ex, ea, l, eg, q⟩ => ?_) ht
  subst ex
  obtain rfl : u = Value.ref a := rx
  obtain ⟨CX, k, f, fd, ps, hC, hm, F, hr, hb, hx⟩ := (T.get eg).ex
  refine getmeth_ok I1 ea hC hm l ?_
  refine PySem.W.callWith_K0 (first := [.ref a]) I1.kIn hm.kp ?_
  exact run_fn (us := [.ref a]) (vs := [.ref a]) (dvs := []) F hr hb .nil hx I1 (.cons rfl .nil) q
structure PEnt (X : Cx) (f : Str) (cl : Str) (g : List D → W D) : Prop where
  ex : ∃ (CX : CXT) (k : Nat) (p fa : Addr) (fd : FuncData) (ps : List Str), Cls X.K (He.ga X.K cl) ∧ PropOf X.K (He.ga X.K cl) f p fa ∧ FnOk X.prog X.w X.K X.mg X.base CX k fa fd ps (Pr X.K 1 g) ∧ Room (k + 1) X.A ∧ Binds X.K fd ps [] ∧ Passes CX X.nox E0
inductive PTab (X : Cx) (f : Str) : Tb → Prop
  | nil : PTab X f []
  | cons {cl : Str} {g : List D → W D} {tb : Tb} : PEnt X f cl g → PTab X f tb → PTab X f ((cl, g) :: tb)
theorem PTab.get {f : Str} {cl : Str} {g : List D → W D} : ∀ {tb : Tb}, PTab X f tb → tb.lookup cl = some g → PEnt X f cl g
  | _, .nil, h => by cases h
  | _, .cons (cl := d) a r, h => by
    rw [List.lookup_cons] at h
    cases q : (cl == d) with
    | true => rw [q] at h; cases h; rw [eq_of_beq q]; exact a
    | false => rw [q] at h; exact r.get h
theorem pe_propU {f : Str} {tb : Tb} {e : Expr} {ta : TE} {pos : Pos} (T : PTab X f tb) (he : PE X e ta) (hab : attributeBase e f X.env (eval e X.env) = eval e X.env := by rfl) : PE X (.Attribute e f pos) (tPropU X.K tb E0 ta) := by
  refine ⟨fun pins s σ H Q I h => ?_⟩
  refine attr_of hab (thn (he.run pins s σ H _ I h) fun u s1 ⟨x, H1, I1, rx, a, cl, dx, fs, g, ex, ea, eg, q⟩ => ?_)
  subst ex
  obtain rfl : u = Value.ref a := rx
  obtain ⟨CX, k, p, fa, fd, ps, hC, hp, F, hr, hb, hx⟩ := (T.get eg).ex
  exact getprop_ok (dvs := []) (ds := []) I1 ea hC hp F hr hb .nil hx q
end

/-! ### tables by promises -/
section
variable (P : Program) (w : World) (K : PySem.W.Frag) (mg : Str → Option Value) (base : Heap)
inductive TabK (k : Nat) (m : Str) (n : Nat) : Tb → Prop
  | nil : TabK k m n []
  | cons {cl : Str} {g : List D → W D} {tb : Tb} {f : Addr} : Cls K (He.ga K cl) → Meth K (He.ga K cl) m f → Fk P w K mg base k f (Pr K (n + 1) g) → TabK k m n tb → TabK k m n ((cl, g) :: tb)
inductive TabP (k : Nat) (x : Str) : Tb → Prop
  | nil : TabP k x []
  | cons {cl : Str} {g : List D → W D} {tb : Tb} {p f : Addr} : Cls K (He.ga K cl) → PropOf K (He.ga K cl) x p f → Fk P w K mg base k f (Pr K 1 g) → TabP k x tb → TabP k x ((cl, g) :: tb)
end
section
variable {X : Cx} {E : XK} {k n : Nat} {m : Str} {tb : Tb}
theorem TabK.mt (T : TabK X.prog X.w X.K X.mg X.base k m n tb) (hr : Room k X.A) (hx : Passes (L2.CX X.prog X.w) X E) : MTab X E m n tb := by
  induction T with
  | nil => exact .nil
  | cons a b c _ ih =>
    obtain ⟨fd, ps, G, hb, hk⟩ := c.ex
    exact .cons ⟨_, _, _, _, _, a, b, G, hr, hb, hx⟩ ih
theorem TabP.pt (T : TabP X.prog X.w X.K X.mg X.base k m tb) (hr : Room (k + 1) X.A) : PTab X m tb := by
  induction T with
  | nil => exact .nil
  | cons a b c _ ih =>
    obtain ⟨fd, ps, G, hb, hk⟩ := c.ex
    exact .cons ⟨_, _, _, _, _, _, a, b, G, hr, hb, px0⟩ ih
end

/-! ### objects made -/
section
variable {K : PySem.W.Frag}
/-- a new object, its init; then it changes no more -/
@[reducible] def mkObj (cl : Str) (g : List D → W D) (ds : List D) : W D := (W.new (.ins cl [])).bind fun i => (g (.mu i :: ds)).bind fun v => W.need (v = .non) ((W.get i).bind fun o => match o with
  | .ins cl' gs => (W.put i .gone).bind fun _ => W.ret (.obj cl' gs)
  | _ => W.stuck)
/-- .. it stays a thing that changes -/
@[reducible] def mkMut (cl : Str) (g : List D → W D) (ds : List D) : W D := (W.new (.ins cl [])).bind fun i => (g (.mu i :: ds)).bind fun v => W.need (v = .non) (W.ret (.mu i))
@[reducible] def dMake (cl : Str) (m : Nat) (g : List D → W D) (f : List Sl → W (List D)) : List Sl → W D := fun δ => (f δ).bind fun ds => W.need (ds.length = m) (mkObj cl g ds)
@[reducible] def dMakeM (cl : Str) (m : Nat) (g : List D → W D) (f : List Sl → W (List D)) : List Sl → W D := fun δ => (f δ).bind fun ds => W.need (ds.length = m) (mkMut cl g ds)
theorem made {c : Cg} {w : Wd} {s : S} {x dx : Addr} {cl : Str} (o : Ok K c w s) (hC : Cls K (He.ga K cl)) (hx : w.H x = none) (hdx : w.H dx = none) (hne : dx ≠ x) :
    ∃ w', w'.H = upd (upd w.H dx (.own x)) x (.ins (He.ga K cl) dx []) ∧ Ok K c w' ⟨s.n, s.st ++ [.ins cl []]⟩ ∧ Go c w w' ∧ w'.al[s.st.length]? = some x := by
  have o1 : Ok K c ⟨w.al, w.F, upd w.H dx (.own x)⟩ s := o.upH (o.ne hdx) (o.free hdx) (o.out hdx) (fun u z => by rw [hdx] at z; cases z)
  have g1 : Go c w ⟨w.al, w.F, upd w.H dx (.own x)⟩ := (Go.refl c w).upH hdx
  have hx2 : upd w.H dx (.own x) x = none := by rw [upd_ne hne.symm]; exact hx
  obtain ⟨o2, g2⟩ := o1.add (p := x) (o := .ins (He.ga K cl) dx []) (mo := .ins cl []) hx2 notIns.1 notIns.2 ⟨o.free hx, dx, [], upd_same, hC, fun y hy => by simp at hy, .nil, by decide⟩
  refine ⟨_, rfl, o2, g1.trans g2 o2, ?_⟩
  show (w.al ++ [x])[s.st.length]? = some x
  rw [← o.len]; simp
theorem le_make {cl : Str} {m : Nat} {g : List D → W D} {t : XK → TA} {f : List Sl → W (List D)} (hC : Cls K (He.ga K cl)) (ha : LA K t f) : LE K (fun E => tMake (He.ga K cl) (Pr K (m + 1) g) [] E (t E)) (dMake cl m g f) := fun c w s σ δ Q E o sl h =>
  ha c w s σ δ _ E o sl (h.bind.mono fun ds w1 s1 g1 o1 p vs r1 x dx hx hdx hne => by
    obtain ⟨p1, p2⟩ := p
    obtain ⟨w2, e2, o2, g2, a2⟩ := made o1 hC hx hdx hne
    have p3 : (((g (.mu s1.st.length :: ds)).bind fun v => W.need (v = .non) ((W.get s1.st.length).bind fun o => match o with
      | .ins cl' gs => (W.put s1.st.length .gone).bind fun _ => W.ret (D.obj cl' gs)
      | _ => W.stuck))).wp ⟨s1.n, s1.st ++ [.ins cl []]⟩ _ _ := p2
    have p4 := (Den.on (s0 := s1) p3 g2).bind
    refine ⟨c, w2, ⟨s1.n, s1.st ++ [.ins cl []]⟩, .mu s1.st.length :: ds, e2, o2, .cons (.mu a2) (by rw [List.append_nil]; exact r1.up g2.sub), by rw [List.length_cons, p1], p4.mono fun d w3 s3 g3 o3 q v rv => ?_⟩
    obtain ⟨q0, q⟩ := q
    subst q0
    cases rv
    refine ⟨rfl, ?_⟩
    have a3 := g3.sub.at a2
    obtain ⟨mo, em, q⟩ := q
    have rm := o3.sto _ _ _ a3 em
    cases mo with
    | ins cl' gs =>
      obtain ⟨hF, dx', vs', h1, h2, h3, h4, h5⟩ := rm
      obtain ⟨o4, g4⟩ := o3.ice a3 hF h1
      exact q _ g4 o4 (.ref x) (.obj upd_same h2 h3 (h4.up g4.sub))
    | _ => exact q.elim)
theorem le_makeM {cl : Str} {m : Nat} {g : List D → W D} {t : XK → TA} {f : List Sl → W (List D)} (hC : Cls K (He.ga K cl)) (ha : LA K t f) : LE K (fun E => tMake (He.ga K cl) (Pr K (m + 1) g) [] E (t E)) (dMakeM cl m g f) := fun c w s σ δ Q E o sl h =>
  ha c w s σ δ _ E o sl (h.bind.mono fun ds w1 s1 g1 o1 p vs r1 x dx hx hdx hne => by
    obtain ⟨p1, p2⟩ := p
    obtain ⟨w2, e2, o2, g2, a2⟩ := made o1 hC hx hdx hne
    have p3 : (((g (.mu s1.st.length :: ds)).bind fun v => W.need (v = .non) (W.ret (D.mu s1.st.length)))).wp ⟨s1.n, s1.st ++ [.ins cl []]⟩ _ _ := p2
    have p4 := (Den.on (s0 := s1) p3 g2).bind
    refine ⟨c, w2, ⟨s1.n, s1.st ++ [.ins cl []]⟩, .mu s1.st.length :: ds, e2, o2, .cons (.mu a2) (by rw [List.append_nil]; exact r1.up g2.sub), by rw [List.length_cons, p1], p4.mono fun d w3 s3 g3 o3 q v rv => ?_⟩
    obtain ⟨q0, q⟩ := q
    subst q0
    cases rv
    exact ⟨rfl, q _ (Go.refl ..) o3 (.ref x) (.mu (g3.sub.at a2))⟩)
def putG (f : Str) (v : D) : List (Str × D) → List (Str × D)
  | [] => [(f, v)]
  | (g, x) :: r => if g = f then (g, v) :: r else (g, x) :: putG f v r
theorem putG_len (f : Str) (v : D) : ∀ gs, (putG f v gs).length ≤ gs.length + 1
  | [] => Nat.le_refl _
  | (g, x) :: r => by
    unfold putG
    split
    · exact Nat.le_succ _
    · exact Nat.succ_le_succ (putG_len f v r)
theorem putG_names (f : Str) (v : D) : ∀ {gs : List (Str × D)} {y : Str}, y ∈ (putG f v gs).map (·.1) → y = f ∨ y ∈ gs.map (·.1)
  | [], y, h => by simp [putG] at h; exact .inl h
  | (g, x) :: r, y, h => by
    unfold putG at h
    split at h
    · exact .inr h
    · rw [List.map_cons, List.mem_cons] at h
      rcases h with h | h
      · exact .inr (by rw [h]; exact List.mem_cons_self)
      · rcases putG_names f v h with h | h
        · exact .inl h
        · exact .inr (List.mem_cons_of_mem _ h)
theorem RepF.put {c : Cg} {al : List Addr} {F : Hp} {f : Str} {v : V} {d : D} (r : Rep K c al F v d) : ∀ {fs : List (Str × V)} {gs : List (Str × D)}, RepF K c al F fs gs → RepF K c al F (putF f v fs) (putG f d gs)
  | _, _, .nil => .cons r .nil
  | _, _, .cons (x := x) a q => by
    unfold putF putG
    split
    · exact .cons r q
    · exact .cons a (RepF.put r q)
/-- o.f = e, o a thing that changes, of a class of cl -/
@[reducible] def dSetF (cl : List Str) (f : Str) (fo fe : List Sl → W D) : List Sl → W Out := fun δ => (fe δ).bind fun d => (fo δ).bind fun x => match x with
  | .mu i => (W.get i).bind fun o => (match o with
    | .ins c gs => W.need (c ∈ cl ∧ gs.length < 900) ((W.put i (.ins c (putG f d gs))).bind fun _ => W.ret (.nx δ))
    | _ => W.stuck)
  | _ => W.stuck
theorem ls_setF {cl : List Str} {to te : XK → TE} {fo fe : List Sl → W D} {f : Str} (hc : ∀ c ∈ cl, NoAttr K (He.ga K c) f) (ho : LE K to fo) (he : LE K te fe) : LS K (fun E => sFld K (to E) (te E) f) (dSetF cl f fo fe) := fun c w s σ δ D E o sl q =>
  he c w s σ δ _ E o sl (q.bind.mono fun d w1 s1 g1 o1 p y ry => ho c w1 s1 σ δ _ E o1 (sl.go g1) (p.bind.mono fun x w2 s2 g2 o2 p2 v rv => by
    cases rv with
    | @mu i a hi =>
      obtain ⟨mo, em, p3⟩ := p2
      have rm := o2.sto i a mo hi em
      cases mo with
      | ins k gs =>
        obtain ⟨⟨hk, hl⟩, p3⟩ := p3
        obtain ⟨hF, dx, fs, h1, h2, h3, h4, h5⟩ := rm
        refine ⟨a, _, dx, fs, rfl, h1, h2, hc k hk, by rw [h4.len]; omega, ?_⟩
        have hl2 := putG_len f d gs
        obtain ⟨o3, g3⟩ := o2.ch (p := a) (o := .ins (He.ga K k) dx (putF f y fs)) (mo := .ins k (putG f d gs)) hi hF notIns.1 notIns.2 ⟨hF, dx, _, upd_same, h2, fun z hz => by
          rcases putG_names f d hz with e | e
          · rw [e]; exact hc k hk
          · exact h3 z e, h4.put (ry.up g2.sub), by omega⟩
        exact p3 _ g3 o3 σ (((sl.go g1).go g2).go g3)
      | _ => exact p3.elim
    | _ => exact p2.elim))
end
end Ly
set_option Elab.async false
set_option linter.all false
set_option maxRecDepth 100000
set_option maxHeartbeats 2000000
/-! Ly6: super().__init__(..) of objects and of exceptions; raise. -/
namespace Ly
open PySem L2 PyProof.Rows
open Lx (Le SupScope SupD SupC cxS inv_super at_app with_bound)

@[reducible] def dInit (N : List Str) (cl : List Str) (b : List Sl → W Out) (fa : List Sl → W (List D)) (m2 : Nat) (g2 : List D → W D) : List D → W D := fun ds => (b (startD N ds)).bind fun o => match o with
  | .nx δ => (dVar 0 δ).bind fun x => (match x with
    | .mu i => (W.get i).bind fun mo => (match mo with
      | .ins c _ => W.need (c ∈ cl) (((fa δ).calm).bind fun es => W.need (es.length = m2) ((g2 (.mu i :: es)).bind fun _ => W.ret .non))
      | _ => W.stuck)
    | _ => W.stuck)
  | _ => W.stuck
section
variable {P : Program} {w : World} {K : PySem.W.Frag} {mg : Str → Option Value} {base : Heap} {nm qual : Str} {params : Arguments} {body : List Stmt} {scope : Scope} {DC f f2 : Addr} {fd fd2 : FuncData}
theorem tk_sup {N : List Str} {cd : Value} {cc : Addr} {A : Around} {outer : List Env} {s : Shared} {H : Hp} {E : XK} : Tk (cxS (L2.CX P w) P w K mg base N qual scope f cd cc A outer s H E) E := takes_of rfl rfl rfl rfl
theorem fn_super {N ps ps2 : List Str} {k m m2 : Nat} {cl : List Str} {t : XK → TS} {b : List Sl → W Out} {ta : XK → TA} {fa : List Sl → W (List D)} {g2 : List D → W D} {pre : List Stmt} {e : Expr} {es : List Expr} {p0 p1 apos pos pos2 : Pos} {slf : Str} {ar : Arg}
    (F : SupD P K nm qual params body scope DC f fd) (S : SupScope N ps scope) (hN : N[0]? = some slf) (hps : ps.length = m + 1) (har : (params.posonlyargs ++ params.args).head? = some ar) (hslf : ar.arg = slf) (hloc : scope.names.lookup slf = some .local)
    (hb : body = pre ++ [.Expr (.Call (.Attribute (.Call (.Name "super" p0) [] [] p1) "__init__" apos) (e :: es) [] pos) pos2])
    (hl : LS K t b) (hla : LA K ta fa)
    (hpre : ∀ (cd : Value) (cc : Addr) (A : Around) (outer : List Env) (s : Shared) (H : Hp) (E : XK), Room k (A.deeper (PySem.W.ksEnv qual scope s.heap.objs.size f cd cc)) → Tk (cxS (L2.CX P w) P w K mg base N qual scope f cd cc A outer s H E) E → PSs (cxS (L2.CX P w) P w K mg base N qual scope f cd cc A outer s H E) pre (t E))
    (harg : ∀ (cd : Value) (cc : Addr) (A : Around) (outer : List Env) (s : Shared) (H : Hp) (E : XK), Room k (A.deeper (PySem.W.ksEnv qual scope s.heap.objs.size f cd cc)) → PA (cxS (L2.CX P w) P w K mg base N qual scope f cd cc A outer s H E).nox (e :: es) (ta E0))
    (G : FnOk P w K mg base (L2.CX P w) k f2 fd2 ps2 (Pr K (m2 + 1) g2)) (b2 : Binds K fd2 ps2 []) (hsub : ∀ c, c ∈ cl → SupC K (He.ga K c) DC f2) (hboot : bootBuiltins "super" = some (.type "super"))
    (hst : ∀ env : Env, starEach (e :: es) env = (false, eval e env) :: starEach es env) (hpl : ∀ env : Env, (backTo pos (starEach es env)).any (·.1) = false)
    (hsw : ∀ env : Env, swapsWith (.Call (.Attribute (.Call (.Name "super" p0) [] [] p1) "__init__" apos) (e :: es) [] pos) none pos2.line env = pure false)
    (hev : ∀ env : Env, ∃ plS : Sem Bool, eval (.Call (.Attribute (.Call (.Name "super" p0) [] [] p1) "__init__" apos) (e :: es) [] pos) env = (do
      let ov ← attributeBase (.Call (.Name "super" p0) [] [] p1) "__init__" env (eval (.Call (.Name "super" p0) [] [] p1) env)
      standAt apos.atName
      let (f, first) ← holding [ov] (getMethod ov "__init__" plS)
      callWith pos f first (backTo pos (starEach (e :: es) env)) [])) :
    FnOk P w K mg base (L2.CX P w) (k + 1) f fd ps (Pr K (m + 1) (dInit N cl b fa m2 g2)) := by
  obtain ⟨oc, od, kV, doc, pm, an, cda, ct, osl, cc, rfl, lk, hcd, ⟨ccl, ccd, ccs, hcell⟩, ⟨kcl, kcd, kvs, kcs, file, tf, hcode, hvs, hfile⟩⟩ := F.ex
  refine ⟨fun vs H Q E h => by rw [Pr.len vs H Q E h, hps], fun A outer s H args us vs Q E hr e0 hbind r hsp => ?_⟩
  have hlen := Pr.len vs H Q E hsp
  have KB := e0.mod.kin
  have KX : K.In s.heap := e0.mod.kin.keeps fun b o e => (e0.bs b o e).1
  have lim : s.heap.NoLimit := e0.mod.nolimit.keeps fun b o e => (e0.bs b o e).1
  refine PySem.ks_codeAny_call_defAt (body := body) (binds := ps.zip us) hr.depth (KX _ _ lk) rfl lim (PySem.W.codeRec_of KX hcd) rfl hbind S.noc (fun y hy => S.par y.1 (List.of_mem_zip (a := y.1) (b := y.2) hy).1) (fun h1 hns hk => ?_) S.co S.gen S.kind
  let X : Cx := cxS (L2.CX P w) P w K mg base N qual scope f (.ref cda) cc A outer s H E
  have tk : Tk X E := tk_sup
  have I : Inv X [] (L2.start N vs) H { s with heap := h1, toks := s.toks + (ps.zip us).length } := inv_super S hr.hd e0 (by rw [hlen, hps]) r (KB _ _ hcell) rfl hns hk
  have hrd : Room k (A.deeper (PySem.W.ksEnv qual scope s.heap.objs.size f (.ref cda) cc)) := hr.deeper _
  obtain ⟨c, w0, s0, ds, rfl, ok, rl, dl, q⟩ := hsp
  have slo : Slo K c w0 (L2.start N vs) (startD N ds) := Slo.start rl
  rw [hb]
  refine at_app ?_
  -- the statements ahead
  have rd : t E { nx := fun σ1 H1 => ∃ w1 s1 δ1, w1.H = H1 ∧ Ok K c w1 s1 ∧ Slo K c w1 σ1 δ1 ∧ Den K c ((dVar 0 δ1).bind fun x => (match x with
    | .mu i => (W.get i).bind fun mo => (match mo with
      | .ins c _ => W.need (c ∈ cl) (((fa δ1).calm).bind fun es => W.need (es.length = m2) ((g2 (.mu i :: es)).bind fun _ => W.ret D.non))
      | _ => W.stuck)
    | _ => W.stuck)) w1 s1 (qV K c Q) (xE K c E), rt := fun _ _ => False } (L2.start N vs) w0.H := by
    refine hl c w0 s0 _ _ _ E ok slo (q.bind.mono fun u w1 s1 g1 o1 p => ?_)
    cases u with
    | nx δ => exact fun σ1 s1' => ⟨w1, s1, δ, rfl, o1, s1', p⟩
    | rt d => exact p.elim
    | bk δ => exact p.elim
    | ct δ => exact p.elim
  have run1 := (hpre (.ref cda) cc A outer s w0.H E hrd tk).run [] _ _ w0.H _ I rd
  refine wpAny_mono run1 (fun fl s1 hs => ?_) (fun e s' hs => hs)
  cases fl with
  | ret u => obtain ⟨_, _, _, _, _, z⟩ := hs; exact z.elim
  | brk => obtain ⟨_, _, _, z⟩ := hs; exact z.elim
  | cont => obtain ⟨_, _, _, z⟩ := hs; exact z.elim
  | next =>
    obtain ⟨σ1, H1, I1, w1, s1', δ1, rfl, o1, sl1, q1⟩ := hs
    -- the object
    have q1 := q1.bind
    unfold dVar at q1
    cases ev0 : δ1[0]? with
    | none => rw [ev0] at q1; exact (show False from q1).elim
    | some x0 => cases x0 with
      | none => rw [ev0] at q1; exact (show False from q1).elim
      | some d0 =>
        rw [ev0] at q1
        have q1 := Den.ret q1 o1
        obtain ⟨v0, hv0, r0⟩ := sl1.val 0 _ ev0
        cases r0 with
        | @mu i0 x hi0 =>
          obtain ⟨mo, em, q1⟩ := q1
          have rm := o1.sto i0 x mo hi0 em
          cases mo with
          | ins c0 gs0 =>
            obtain ⟨hc0, q1⟩ := q1
            obtain ⟨hF0, dx, fs, hx1, _, _, _, _⟩ := rm
            have sc := hsub c0 hc0
            have KX1 : K.In s1.heap := I1.kIn
            obtain ⟨mA, OM, _⟩ := ins_get I1.hok hx1
            obtain ⟨odx, IA, _⟩ := OM.look
            -- the call
            obtain ⟨plS, hev1⟩ := hev (PySem.W.ksEnv qual scope s.heap.objs.size f (.ref cda) cc)
            refine PySem.ks_wpAt_execs_cons (PySem.ks_wpAt_Expr_any (PySem.ks_wpAt_MethodCall (pl := plS) ?_ hev1) I.quiet (hsw _))
            obtain ⟨hh, gg, dd, tt, oo⟩ := s1
            refine PySem.ks_wpAt_super_base S.sup S.cls (by decide) rfl (KX1 _ _ lk) rfl har rfl (KX1 _ _ hcode) rfl hvs hfile F.top ?_
            obtain ⟨mb, hb1, hb2⟩ := I1.mod.blt
            refine PySem.W.ks_loadName_global S.kind S.sup (Calls.loadGlobal_builtin (env := PySem.W.ksEnv qual scope s.heap.objs.size f (.ref cda) cc) (I1.mod.glob.keeps I1.bk) (PySem.W.mg_none_of KB e0.mod.glob F.sup) (hb1.keeps I1.bk) ((hb2 "super" (by decide)).trans hboot) ⟨rfl, ?_⟩)
            refine wpAny_loadName_free S.kind S.cls rfl ⟨_, KX1 _ _ hcell, rfl⟩ ?_
            obtain ⟨ml, hn1, hl1⟩ := I1.loc
            obtain ⟨u0, ru0, lk0⟩ := hl1 0 slf (.ref x) hN hv0 (.inl hloc)
            have hml : ml slf = some (.ref x) := by
              have e0 : u0 = Value.ref x := ru0
              rw [e0] at lk0
              rcases lk0 with ⟨_, z⟩ | ⟨z, _⟩
              · exact z
              · have z1 : scope.names.lookup slf = some .cell ∨ scope.names.lookup slf = some .free := z
                rw [hloc] at z1
                rcases z1 with z1 | z1 <;> cases z1
            rw [hslf]
            refine wpAny_loadName_local S.kind hloc hn1 hml ?_
            obtain ⟨cdD, hcD⟩ := F.cls
            obtain ⟨oD, hD1, hD2⟩ : ∃ oD, hh.get? DC = some oD ∧ oD.data = .cls cdD := by
              unfold PySem.W.clsIn at hcD
              split at hcD
              · rename_i ho
                cases hcD
                exact ⟨_, KX1 _ _ ho, rfl⟩
              · cases hcD
            refine PySem.ks_wpAny_isType_cls hD1 hD2 ⟨rfl, ?_⟩
            refine PySem.ks_wpAny_call_super hD1 hD2 IA.at_ IA.cls (fun cz ez => ?_) (PySem.W.looks_mroIn KX1 sc.mro) (fun h2 hso hk2 => ?_)
            · have := IA.no
              unfold PySem.W.notCls at this
              rw [ez] at this
              exact Bool.noConfusion this
            have I2 : Inv X [] σ1 w1.H ⟨h2, gg, dd, tt, oo⟩ := I1.kept (t' := tt) hk2
            have KX2 : K.In h2 := I2.kIn
            obtain ⟨cdC, hcC⟩ : ∃ cd, PySem.W.clsIn K (He.ga K c0) = some cd := by
              cases q2 : PySem.W.clsIn K (He.ga K c0) with
              | none =>
                have z := sc.at_
                unfold PySem.W.ks_superIn at z
                rw [q2] at z; cases z
              | some cd => exact ⟨cd, rfl⟩
            have hal := sc.at_
            unfold PySem.W.ks_superIn at hal
            rw [hcC] at hal
            obtain ⟨of2, hof, hofc⟩ : ∃ of2, h2.get? f2 = some of2 ∧ of2.cls = .type "function" := by
              have z : (K.lookup f2).map (·.cls) = some (.type "function") := sc.ty
              cases q2 : K.lookup f2 with
              | none => rw [q2] at z; cases z
              | some of2 => rw [q2] at z; exact ⟨of2, KX2 _ _ q2, Option.some.inj z⟩
            refine PySem.ks_wpAny_getMethod_super hso (PySem.W.looks_opaque KX2 F.op) (l₀ := cdC.mro) ?_ rfl KX2 hal hof hofc (PySem.W.ks_ne KX1 IA hcC) (by decide) ?_
            · exact fun A Q E s k q => wpAny_bind ((PySem.W.looks_clsIn KX2 hcC) A _ E s k (wpAny_pure q))
            have I3 : Inv X [] σ1 w1.H ⟨h2.push { cls := .type "method", data := .fields #[.ref f2, .ref x] }, gg, dd, tt + 1, oo⟩ := I2.kept (t' := tt + 1) (fun b o e => Heap.get?_push_of_some _ e)
            have hbm : (h2.push { cls := .type "method", data := .fields #[.ref f2, .ref x] }).get? h2.objs.size = some { cls := .type "method", data := .fields #[.ref f2, .ref x] } := Heap.get?_push_at rfl rfl
            have I4 := I3.pinned (fp := [h2.objs.size]) (fun b hb => by
              have eb : b = h2.objs.size := by simpa using hb
              subst eb
              exact I2.fpOk (Nat.le_refl _) (I2.hok.fresh (Nat.le_refl _))) (fun b hb => by
              have eb : b = h2.objs.size := by simpa using hb
              subst eb
              exact ⟨_, hbm, fun v z => by cases z⟩)
            show wpAny (model P w) X.A (callWith pos (.ref h2.objs.size) [] (backTo pos (starEach (e :: es) X.env)) []) _ _ _
            refine with_bound (g := f2) (self := .ref x) sc.fn (hst _) (hpl _) ?_
            have rdA : ta E0 σ1 w1.H fun vs5 H5 => ∃ w5 s5 ds5, w5.H = H5 ∧ Go c w1 w5 ∧ Ok K c w5 s5 ∧ RepL K c w5.al w5.F vs5 ds5 ∧ ds5.length = m2 ∧ Den K c ((g2 (.mu i0 :: ds5)).bind fun _ => W.ret D.non) w5 s5 (qV K c Q) (xE K c E) :=
              hla c w1 s1' σ1 δ1 _ E0 o1 sl1 ((Den.bind q1).calm.mono fun ds5 w5 s5 g5 o5 p5 vs5 r5 => ⟨w5, s5, ds5, rfl, g5, o5, r5, p5.1, p5.2⟩)
            refine wpAny_mono ((harg (.ref cda) cc A outer s w0.H E hrd).run pos _ _ σ1 w1.H _ (I4.wish _) rdA) (fun us5 s5 q5 => ?_) (fun _ _ z => z.elim)
            obtain ⟨vs5, H5, I5, r5, w5, s5', ds5, rfl, g5, o5, rl5, dl5, q5⟩ := q5
            have I5 : Inv X _ σ1 w5.H s5 := I5.unwish
            have hb5 : s5.heap.get? h2.objs.size = some { cls := .type "method", data := .fields #[.ref f2, .ref x] } := (I5.pin (h2.objs.size, _) (List.mem_append_right _ (List.mem_append_right _ (mem_pinsAt (List.mem_cons_self) hbm)))).1
            refine ⟨⟨hb5, I5.kIn⟩, ?_⟩
            show wpAny (model P w) X.A (call (.ref h2.objs.size) ([] ++ us5)) _ _ s5
            have sp2 : Pr K (m2 + 1) g2 (.ref x :: vs5) w5.H (fun _ H6 => Q .non H6) E := ⟨c, w5, s5', .mu i0 :: ds5, rfl, o5, .cons (.mu (g5.sub.at hi0)) rl5, by rw [List.length_cons, dl5], q5.bind.mono fun d w6 s6 g6 o6 p6 v rv => p6.ret o6 .non .non⟩
            have r25 : Vals (V.ref x :: vs5) (Value.ref x :: us5) := .cons rfl r5
            have hl2 : (Value.ref x :: us5).length = ps2.length := by rw [← r25.length]; exact G.len _ _ _ _ sp2
            refine wpAny_call (PySem.ks_codeAny_call_bound hb5 (codeAny_mono (G.run X.A X.stack s5 w5.H ⟨.ref x :: us5, []⟩ (.ref x :: us5) (.ref x :: vs5) _ E hrd I5.env0 ?_ r25 sp2) fun r6 s6 h6 => ?_))
            · have z := b2 s5 (.ref x :: us5) I5.kIn (by rw [List.append_nil]; exact hl2)
              rw [List.append_nil] at z
              exact z
            · cases r6 with
              | error er => exact px tk _ _ _ _ er s6 I5 h6
              | ok fl =>
                cases fl with
                | ret u6 =>
                  obtain ⟨v6, H6, I6, rv6, q6⟩ := I5.after h6
                  exact PySem.wpAt_of_wpAny (wpAny_execs_nil ⟨.non, H6, I6.os, I6.bare, I6.base, I6.hok, rfl, q6⟩)
                | next => exact False.elim h6
                | brk => exact False.elim h6
                | cont => exact False.elim h6
          | _ => exact q1.elim
        | _ => exact (show False from q1).elim
end
end Ly
set_option Elab.async false
set_option linter.all false
set_option maxRecDepth 100000
set_option maxHeartbeats 2000000
/-! Ly7: an own exception (below ValueError) with one field: its init, raise. -/
namespace Ly
open PySem PySem.Spec L2 PyProof.Rows
open Lx (Le SupScope SupD SupC cxS inv_super at_app with_bound)

/-- the wrapper of ValueError.__init__, bound to the exception at e, called -/
theorem mw_call {prog : Program} {w : World} {A : Around} {E : Value → Shared → Prop} {K : PySem.W.Frag} {C e u t0 : Addr} {rest : List Value} {Q : Value → Shared → Prop} {h : Heap} {g : Array GenState} {d : Drawn} {t : Nat} {os : OsState} (T : OexC K C) (KX : K.In h)
    (he : h.get? e = some (PySem.HandSPX.excO C t0)) (hu : h.get? u = some (PySem.W.kxs_mw "ValueError.__init__" e)) (hz : rest.length ≤ sizeLine)
    (hq : ∀ h' t1, (∀ b o, b ≠ e → h.get? b = some o → h'.get? b = some o) → h'.get? e = some (PySem.HandSPX.excO C t1) → Q .none ⟨h', g, d, t, os⟩) : wpAny (model prog w) A (call (.ref u) rest) Q E ⟨h, g, d, t, os⟩ := by
  obtain ⟨nm, q, N, bs, bm, sn, sub, ab, col, dd, k0, k1, k2, k3, k5, hC, hbm⟩ := T.cls
  refine wpAny_call (codeAny_of_tree ?_)
  show wpAny _ A.in1 (callAny (.ref u) ⟨rest, []⟩) _ _ _
  simp only [callAny]
  refine wpAny_bind (wpAny_load hu ?_)
  have e1 : (Value.type "method-wrapper" == Value.type "method" || Value.type "method-wrapper" == Value.type "builtin_function_or_method" || Value.type "method-wrapper" == Value.type "method-wrapper") = true := by decide
  simp only [PySem.W.kxs_mw, e1, if_true]
  refine PySem.W.KFB.if_so (by decide) ?_
  refine wpAny_bind (PySem.W.check_bound_init F.excBase_ValueError.toExcCallFacts (KX _ _ hC) he rfl ?_)
  refine wpAny_bind (wpAny_pure (wpAny_pure ?_))
  refine ⟨plainId_quiet F.excBase_ValueError.init.plain _, codeAny_builtin F.excBase_ValueError.initEntry ?_⟩
  exact PySem.W.exc_init_tree (cls := .ref C) (t0 := t0) (dv := none) (c2 := .none) (c3 := .none) (b4 := .bool false) he hz fun h' k e' _ => hq h' _ k e'
/-- what the init of such an exception does -/
def spXI (C : Addr) (fn : Str) : Sp := fun vs H Q _ => ∃ a v, vs = [.ref a, v] ∧ H a = some (exo a C none) ∧ ∀ dx, H dx = none → dx ≠ a → Q .non (upd (upd H dx (exd dx [(fn, v)])) a (exo a C (some dx)))
/-- facts of the class -/
structure XC (K : PySem.W.Frag) (C : Addr) (fn : Str) : Prop where
  T : OexC K C
  sup : PySem.W.ks_superIn K C C "__init__" = some (some (.builtin "ValueError.__init__"))
  mro : PySem.W.mroIn K C (.ref C) = some true
  sub : PySem.W.subIn K (.ref C) (.type "ValueError") = some true
  no : PySem.W.findIn K (.ref C) fn = some none
section
variable {P : Program} {w : World} {K : PySem.W.Frag} {mg : Str → Option Value} {base : Heap} {nm qual : Str} {params : Arguments} {body : List Stmt} {scope : Scope} {DC f : Addr} {fd : FuncData}
theorem fn_exc {CX : CXT} {k : Nat} {p0 p1 apos pos pos2 q1 q2 q3 q4 q5 : Pos} {slf fn : Str} {ar : Arg} (F : SupD P K nm qual params body scope DC f fd) (S : SupScope [slf, fn] [slf, fn] scope) (har : (params.posonlyargs ++ params.args).head? = some ar) (hslf : ar.arg = slf) (XF : XC K DC fn)
    (hloc : scope.names.lookup slf = some .local) (hloc2 : scope.names.lookup fn = some .local)
    (hb : body = [.Expr (.Call (.Attribute (.Call (.Name "super" p0) [] [] p1) "__init__" apos) [.Name fn q1] [] pos) pos2, .Assign [.Attribute (.Name slf q2) fn q3] (.Name fn q4) q5]) (hboot : bootBuiltins "super" = some (.type "super"))
    (hd1 : (slf == ("__debug__" : Str)) = false) (hd2 : (fn == ("__debug__" : Str)) = false) (hd3 : (slf == ("__classdict__" : Str)) = false) (hd4 : (fn == ("__classdict__" : Str)) = false)
    (hst : ∀ env : Env, starEach [.Name fn q1] env = (false, eval (.Name fn q1) env) :: starEach [] env) (hpl : ∀ env : Env, (backTo pos (starEach [] env)).any (·.1) = false)
    (hsw : ∀ env : Env, swapsWith (.Call (.Attribute (.Call (.Name "super" p0) [] [] p1) "__init__" apos) [.Name fn q1] [] pos) none pos2.line env = pure false)
    (hsw2 : ∀ env : Env, swapsWith (.Name fn q4) (some (.Attribute (.Name slf q2) fn q3)) q5.line env = pure false)
    (hev : ∀ env : Env, ∃ plS : Sem Bool, eval (.Call (.Attribute (.Call (.Name "super" p0) [] [] p1) "__init__" apos) [.Name fn q1] [] pos) env = (do
      let ov ← attributeBase (.Call (.Name "super" p0) [] [] p1) "__init__" env (eval (.Call (.Name "super" p0) [] [] p1) env)
      standAt apos.atName
      let (f, first) ← holding [ov] (getMethod ov "__init__" plS)
      callWith pos f first (backTo pos (starEach [.Name fn q1] env)) [])) :
    FnOk P w K mg base CX (k + 1) f fd [slf, fn] (spXI DC fn) := by
  obtain ⟨oc, od, kV, doc, pm, an, cda, ct, osl, cc, rfl, lk, hcd, ⟨ccl, ccd, ccs, hcell⟩, ⟨kcl, kcd, kvs, kcs, file, tf, hcode, hvs, hfile⟩⟩ := F.ex
  have slen : ∀ vs H Q E, spXI DC fn vs H Q E → vs.length = 2 := fun vs H Q E h => by obtain ⟨_, _, rfl, _⟩ := h; rfl
  refine ⟨fun vs H Q E h => slen vs H Q E h, fun A outer s H args us vs Q E hr e0 hbind r hsp => ?_⟩
  have hlen := slen vs H Q E hsp
  have KB := e0.mod.kin
  have KX : K.In s.heap := e0.mod.kin.keeps fun b o e => (e0.bs b o e).1
  have lim : s.heap.NoLimit := e0.mod.nolimit.keeps fun b o e => (e0.bs b o e).1
  refine PySem.ks_codeAny_call_defAt (body := body) (binds := [slf, fn].zip us) hr.depth (KX _ _ lk) rfl lim (PySem.W.codeRec_of KX hcd) rfl hbind S.noc (fun y hy => S.par y.1 (List.of_mem_zip (a := y.1) (b := y.2) hy).1) (fun h1 hns hk => ?_) S.co S.gen S.kind
  let X : Cx := cxS CX P w K mg base [slf, fn] qual scope f (.ref cda) cc A outer s H E
  have I1 : Inv X [] (L2.start [slf, fn] vs) H { s with heap := h1, toks := s.toks + ([slf, fn].zip us).length } := inv_super S hr.hd e0 hlen r (KB _ _ hcell) rfl hns hk
  obtain ⟨x, v, rfl, hx, hq⟩ := hsp
  have est : L2.start [slf, fn] [V.ref x, v] = [some (V.ref x), some v] := rfl
  rw [est] at I1
  generalize { s with heap := h1, toks := s.toks + ([slf, fn].zip us).length } = s1 at I1 ⊢
  have KX1 : K.In s1.heap := I1.kIn
  obtain ⟨t0, hox⟩ := exo_at I1.hok hx
  obtain ⟨plS, hev1⟩ := hev (PySem.W.ksEnv qual scope s.heap.objs.size f (.ref cda) cc)
  rw [hb]
  refine PySem.ks_wpAt_execs_cons (PySem.ks_wpAt_Expr_any (PySem.ks_wpAt_MethodCall (pl := plS) ?_ hev1) I1.quiet (hsw _))
  obtain ⟨hh, gg, dd, tt, oo⟩ := s1
  refine PySem.ks_wpAt_super_base S.sup S.cls (by decide) rfl (KX1 _ _ lk) rfl har rfl (KX1 _ _ hcode) rfl hvs hfile F.top ?_
  obtain ⟨mb, hb1, hb2⟩ := I1.mod.blt
  refine PySem.W.ks_loadName_global S.kind S.sup (Calls.loadGlobal_builtin (env := PySem.W.ksEnv qual scope s.heap.objs.size f (.ref cda) cc) (I1.mod.glob.keeps I1.bk) (PySem.W.mg_none_of KB e0.mod.glob F.sup) (hb1.keeps I1.bk) ((hb2 "super" (by decide)).trans hboot) ⟨rfl, ?_⟩)
  refine wpAny_loadName_free S.kind S.cls rfl ⟨_, KX1 _ _ hcell, rfl⟩ ?_
  obtain ⟨ml, hn1, hl1⟩ := I1.loc
  obtain ⟨u0, ru0, lk0⟩ := hl1 0 slf (.ref x) rfl rfl (.inl hloc)
  have hml : ml slf = some (.ref x) := by
    have e0 : u0 = Value.ref x := ru0
    rw [e0] at lk0
    rcases lk0 with ⟨_, z⟩ | ⟨z, _⟩
    · exact z
    · have z1 : scope.names.lookup slf = some .cell ∨ scope.names.lookup slf = some .free := z
      rw [hloc] at z1
      rcases z1 with z1 | z1 <;> cases z1
  rw [hslf]
  refine wpAny_loadName_local S.kind hloc hn1 hml ?_
  obtain ⟨cdD, hcD⟩ := F.cls
  obtain ⟨oD, hD1, hD2⟩ : ∃ oD, hh.get? DC = some oD ∧ oD.data = .cls cdD := by
    unfold PySem.W.clsIn at hcD
    split at hcD
    · rename_i ho
      cases hcD
      exact ⟨_, KX1 _ _ ho, rfl⟩
    · cases hcD
  refine PySem.ks_wpAny_isType_cls hD1 hD2 ⟨rfl, ?_⟩
  refine PySem.ks_wpAny_call_super hD1 hD2 hox rfl (fun cz ez => by cases ez) (PySem.W.looks_mroIn KX1 XF.mro) (fun h2 hso hk2 => ?_)
  have I2 : Inv X [] [some (V.ref x), some v] H ⟨h2, gg, dd, tt, oo⟩ := I1.kept (t' := tt) hk2
  have KX2 : K.In h2 := I2.kIn
  have hal := XF.sup
  unfold PySem.W.ks_superIn at hal
  rw [hcD] at hal
  have hxC : x ≠ DC := fun z => by
    rw [z] at hox
    rw [hox] at hD1
    cases hD1
    cases hD2
  have hox2 := hk2 _ _ hox
  have hI : PySem.W.Looks (model P w) h2 (isInstance (.ref x) (.type "ValueError")) true := by
    have IA : PySem.W.InstAt h2 x _ DC none := ⟨hox2, rfl, rfl, trivial⟩
    exact IA.type.andThen (PySem.W.looks_subIn KX2 XF.sub)
  refine PySem.W.kxs_getMethod PySem.W.kxs_ValueError hso (PySem.W.looks_opaque KX2 F.op) (l₀ := cdD.mro) ?_ rfl KX2 hal hI hxC (by decide) ?_
  · exact fun A Q E s k q => wpAny_bind ((PySem.W.looks_clsIn KX2 hcD) A _ E s k (wpAny_pure q))
  have I3 : Inv X [] [some (V.ref x), some v] H ⟨h2.push (PySem.W.kxs_mw "ValueError.__init__" x), gg, dd, tt + 1, oo⟩ := I2.kept (t' := tt + 1) (fun b o e => Heap.get?_push_of_some _ e)
  have hbm : (h2.push (PySem.W.kxs_mw "ValueError.__init__" x)).get? h2.objs.size = some (PySem.W.kxs_mw "ValueError.__init__" x) := Heap.get?_push_at rfl rfl
  have I4 := I3.pinned (fp := [h2.objs.size]) (fun b hb => by
    have eb : b = h2.objs.size := by simpa using hb
    subst eb
    exact I2.fpOk (Nat.le_refl _) (I2.hok.fresh (Nat.le_refl _))) (fun b hb => by
    have eb : b = h2.objs.size := by simpa using hb
    subst eb
    exact ⟨_, hbm, fun v z => by cases z⟩)
  show wpAny (model P w) X.A (callWith pos (.ref h2.objs.size) [] (backTo pos (starEach [.Name fn q1] X.env)) []) _ _ _
  have vis1 : Vis X.env.scope fn := .inl hloc2
  have pa : PA X.nox [.Name fn q1] (tCons (tVar 1) tNil) := pa_cons (pe_var (X := X.nox) (i := 1) rfl vis1 hd2 hd4) pa_nil
  rw [hst X.env]
  refine PySem.W.kxs_callWith (i := "ValueError.__init__") (x := x) (by show (false || (backTo pos (starEach [] X.env)).any (·.1)) = false; rw [hpl]; rfl) ?_
  have rdA : tCons (tVar 1) tNil [some (V.ref x), some v] H fun vs5 H5 => vs5 = [v] ∧ H5 = H := ⟨v, rfl, rfl, rfl⟩
  have run2 := pa.run pos _ _ [some (V.ref x), some v] H _ (I4.wish _) rdA
  rw [hst X.nox.env] at run2
  refine Calls.evalArgs_plain (wpAny_mono run2 (fun us5 s5 q5 => ?_) (fun _ _ z => z.elim))
  obtain ⟨vs5, H5, I5, r5, ev5, eH5⟩ := q5
  subst ev5 eH5
  have I5 : Inv X _ [some (V.ref x), some v] H5 s5 := I5.unwish
  have hb5 : s5.heap.get? h2.objs.size = some (PySem.W.kxs_mw "ValueError.__init__" x) := (I5.pin (h2.objs.size, _) (List.mem_append_right _ (List.mem_append_right _ (mem_pinsAt (List.mem_cons_self) hbm)))).1
  refine ⟨hb5, ?_⟩
  show wpAny (model P w) X.A (call (.ref h2.objs.size) ([] ++ us5)) _ _ s5
  obtain ⟨t5, hox5⟩ := exo_at I5.hok hx
  obtain ⟨h5, g5, d5, tk5, os5⟩ := s5
  have hl5 : us5.length ≤ sizeLine := by rw [← r5.length, sizeLine_eq]; show 1 ≤ 16777216; decide
  refine mw_call XF.T I5.kIn hox5 hb5 hl5 fun h6 t6 k6 hx6 => ?_
  have J := I5.write (t' := tk5) (x := x) (e := x) (o := exo x DC none) (by rw [hx]; exact True.intro) (.inl rfl) k6 ⟨_, hx6⟩ (exo_ok hx6)
  have eu : upd H5 x (exo x DC none) = H5 := by
    funext b
    by_cases hb : b = x
    · rw [hb, upd_same, hx]
    · rw [upd_ne hb]
  rw [eu] at J
  have ps : PSs X.nox [.Assign [.Attribute (.Name slf q2) fn q3] (.Name fn q4) q5] (tOst K fn (tVar 0) (tVar 1)) :=
    pss_one (ps_ost (X := X.nox) (pe_var (X := X.nox) (i := 0) rfl (.inl hloc) hd1 hd3) (pe_var (X := X.nox) (i := 1) rfl vis1 hd2 hd4) (hsw2 _))
  have rd : tOst K fn (tVar 0) (tVar 1) { nx := fun _ H' => Q .non H', rt := fun _ _ => False } [some (V.ref x), some v] H5 := ⟨v, rfl, .ref x, rfl, x, DC, rfl, XF.T, XF.no, .inl ⟨hx, fun dx n ne => hq dx n ne⟩⟩
  refine PySem.wpAt_of_wpAny (wpAny_mono (ps.nox.run _ _ _ H5 _ J rd) (fun fl s7 h7 => ?_) (fun _ _ z => z))
  cases fl with
  | next => obtain ⟨σ7, H7, I7, q7⟩ := h7; exact ⟨.non, H7, I7.os, I7.bare, I7.base, I7.hok, rfl, q7⟩
  | ret u => obtain ⟨_, _, _, _, _, z⟩ := h7; exact z.elim
  | brk => obtain ⟨_, _, _, z⟩ := h7; exact z.elim
  | cont => obtain ⟨_, _, _, z⟩ := h7; exact z.elim
end

/-! ### raise -/
@[reducible] def dRaise (cls fld : Str) (fa : List Sl → W (List D)) : List Sl → W Out := fun δ => (fa δ).bind fun ds => match ds with | [d] => W.raise ⟨cls, [(fld, d)]⟩ | _ => W.stuck
section
variable {K : PySem.W.Frag}
theorem ls_raise {cls fld : Str} {ta : XK → TA} {fa : List Sl → W (List D)} (ha : LA K ta fa) : LS K (fun E D σ H => tMkO (He.ga K cls) (spXI (He.ga K cls) fld) [] (ta E) σ H fun cl d H' => E cl d H') (dRaise cls fld fa) := fun c w s σ δ D E o sl q =>
  ha c w s σ δ _ E o sl (q.bind.mono fun ds w1 s1 g1 o1 p vs r1 => by
    split at p
    · rename_i d
      obtain ⟨v, rfl, rv⟩ := r1.one
      refine ⟨by show 1 ≤ 1000; decide, fun a ha => ⟨a, v, rfl, upd_same, fun dx hdx hne => ?_⟩⟩
      have hdx1 : w1.H dx = none := by rw [upd_ne hne] at hdx; exact hdx
      refine ⟨rfl, dx, [(fld, v)], upd_same, by rw [upd_ne hne, upd_same], hdx1, ?_⟩
      have eH : upd (del (upd (upd (upd w1.H a (exo a (He.ga K cls) none)) dx (exd dx [(fld, v)])) a (exo a (He.ga K cls) (some dx))) a) dx (.xd [(fld, v)]) = upd w1.H dx (.xd [(fld, v)]) := by
        funext b
        by_cases e1 : b = dx
        · rw [e1, upd_same, upd_same]
        · rw [upd_ne e1, upd_ne e1]
          by_cases e2 : b = a
          · rw [e2, del_same, ha]
          · rw [del_ne e2, upd_ne e2, upd_ne e1, upd_ne e2]
      rw [eH]
      have o2 : Ok K c ⟨w1.al, w1.F, upd w1.H dx (.xd [(fld, v)])⟩ s1 := o1.upH (o1.ne hdx1) (o1.free hdx1) (o1.out hdx1) (fun u z => by rw [hdx1] at z; cases z)
      exact p ⟨w1.al, w1.F, upd w1.H dx (.xd [(fld, v)])⟩ ((Go.refl c w1).upH hdx1) o2 _ _ ⟨rfl, dx, [(fld, v)], rfl, upd_same, .cons rv .nil⟩
    · exact p.elim)
end
section
variable {X : Cx} {E : XK} {k : Nat} {x fld : Str} {e : Expr} {es : List Expr} {ta : TA} {p pos pos2 : Pos}
/-- promises of such inits -/
structure FkX (P : Program) (w : World) (K : PySem.W.Frag) (mg : Str → Option Value) (base : Heap) (k : Nat) (C fI : Addr) (fld : Str) : Prop where
  ex : ∃ (fd : FuncData) (ps : List Str), FnOk P w K mg base (L2.CX P w) k fI fd ps (spXI C fld) ∧ Binds K fd ps []
  T : OexC K C
  ini : PySem.W.findIn K (.ref C) "__init__" = some (some (.ref fI))
  ty : PySem.W.typeIn K (.ref fI) = some (.type "function")
theorem ps_raiseX {C fI : Addr} (F : FkX X.prog X.w X.K X.mg X.base k C fI fld) (hr : Room (k + 1) X.A) (hc : X.calm = true) (tk : Tk X E) (hg : Gl X x) (hm : X.mg x = some (.ref C)) (ha : PA X (e :: es) ta)
    (hdb : (x == ("__debug__" : Str)) = false := by decide) (he : starEach (e :: es) X.env = (false, eval e X.env) :: starEach es X.env := by rfl) (hpl : (backTo pos (starEach es X.env)).any (·.1) = false := by rfl) :
    PS X (.Raise (some (.Call (.Name x p) (e :: es) [] pos)) none pos2) (fun D σ H => tMkO C (spXI C fld) [] ta σ H fun cl d H' => E cl d H') := by
  obtain ⟨fd, ps, G, hb⟩ := F.ex
  exact ps_raise hc tk (pmk_oex F.T F.ini F.ty G hr hb .nil px0 hg hm ha hdb he hpl)
end
end Ly
set_option Elab.async false
set_option linter.all false
set_option maxRecDepth 100000
set_option maxHeartbeats 2000000
/-! Ly8: isinstance, sum, max, sets of signs, texts walked, the draw. -/
namespace Ly
open PySem PySem.Spec L2 PyProof.Rows He
open Lx (Le Ky vTy IsTb IsOk OwnC rSumL tMaxD tLenSetS tSortSet tRevS revS uniq sgn)

section
variable {K : PySem.W.Frag}
/-! ### isinstance -/
@[reducible] def tyW : D → W Ky
  | .non => W.ret (.t "NoneType") | .bl _ => W.ret (.t "bool") | .int _ => W.ret (.t "int") | .str _ => W.ret (.t "str")
  | .lst _ => W.ret (.t "list") | .tup _ => W.ret (.t "tuple") | .dct _ => W.ret (.t "dict") | .obj c _ => W.ret (.c c)
  | .mu i => (W.get i).bind fun o => match o with | .lst _ => W.ret (.t "list") | .dct _ => W.ret (.t "dict") | .ins c _ => W.ret (.c c) | .gone => W.stuck
  | _ => W.stuck
@[reducible] def isiD (tb : IsTb) (x : D) : W D := (tyW x).bind fun t => match tb.lookup t with | some b => W.ret (.bl b) | none => W.stuck
theorem le_isi {cv : V} {u : Value} {tb : IsTb} {ta : XK → TE} {fa : List Sl → W D} (hc : ClsV cv u) (ht : IsOk K u tb) (ha : LE K ta fa) : LE K (fun E => tCB (rIsi K) (tCons (ta E) (tCons (tC cv) tNil))) (dOp1 (isiD tb) fa) := fun c w s σ δ Q E o sl h =>
  ha c w s σ δ _ E o sl (h.bind.mono fun x w1 s1 g1 o1 q v r1 => by
    have key : ∀ t : Ky, ((∀ cc, t = .c cc → OwnC K cc) → TyX K w1.H v (vTy K t)) → Den K c (match tb.lookup t with | some b => W.ret (D.bl b) | none => W.stuck) w1 s1 (qV K c Q) (xE K c E) → ∃ (x c : V) (t u : Value) (b : Bool), [v, cv] = [x, c] ∧ ClsV c u ∧ TyX K w1.H x t ∧ PySem.W.kitOne K t u = some b ∧ Q (.bl b) w1.H := fun t hty p => by
      cases e2 : tb.lookup t with
      | none => rw [e2] at p; exact p.elim
      | some b =>
        rw [e2] at p
        obtain ⟨k1, k2⟩ := ht.get e2
        exact ⟨v, cv, vTy K t, u, b, rfl, hc, hty k2, k1, p.ret o1 _ (.bl _)⟩
    cases r1 with
    | non => exact key (.t "NoneType") (fun _ => .base .non) q
    | bl b => exact key (.t "bool") (fun _ => .base (.bl b)) q
    | int i => exact key (.t "int") (fun _ => .base (.int i)) q
    | str x => exact key (.t "str") (fun _ => .base (.str x)) q
    | lst a r => exact key (.t "list") (fun _ => .base (.lst (o1.fro _ _ a))) q
    | tup a r =>
      refine key (.t "tuple") (fun _ => ?_) q
      rcases (SqT.of (o1.fro _ _ a) : SqT K _ _ _) with (z | ⟨ob, z⟩) | ⟨ob, its, n', z, zc, _⟩
      · exact .base (.tup z)
      · exact .fTuple z
      · exact .kTuple z zc
    | dct a r => exact key (.t "dict") (fun _ => .base (.dK (o1.fro _ _ a))) q
    | @obj a dx cl fs gs hf _ _ _ => exact key (.c cl) (fun k => (k _ rfl).ok _ _ _ _ (o1.fro _ _ hf)) q
    | @mu i a hi =>
      obtain ⟨mo, em, q⟩ := q
      have rm := o1.sto i a mo hi em
      cases mo with
      | lst xs => obtain ⟨_, vs, h1, _⟩ := rm; exact key (.t "list") (fun _ => .base (.lst h1)) q
      | dct xs => obtain ⟨_, vs, h1, _⟩ := rm; exact key (.t "dict") (fun _ => .base (.dK h1)) q
      | ins cl gs => obtain ⟨_, dx, vs, h1, _⟩ := rm; exact key (.c cl) (fun k => (k _ rfl).ok _ _ _ _ h1) q
      | gone => exact q.elim
    | pen => exact q.elim
    | err _ _ _ => exact q.elim
    | err0 _ => exact q.elim
    | sct _ => exact q.elim)

/-! ### sum of lists, max of ints -/
def lstsD : List D → Option (List (List D))
  | [] => some []
  | .lst xs :: r => (lstsD r).map (xs :: ·)
  | _ => none
def intsD : List D → Option (List Int)
  | [] => some []
  | .int i :: r => (intsD r).map (i :: ·)
  | _ => none
@[reducible] def sumD : List D → W D
  | [.lst xs, .lst acc] => (match lstsD xs with
    | some yss => W.need ((acc ++ yss.flatten).length ≤ sizeLine) (W.ret (.lst (acc ++ yss.flatten)))
    | none => W.stuck)
  | _ => W.stuck
theorem lsts_rep {c : Cg} {al : List Addr} {F : Hp} : ∀ {vs : List V} {ds : List D} {yss : List (List D)}, RepL K c al F vs ds → lstsD ds = some yss → ∃ ws : List (Addr × List V), vs = ws.map (fun w => V.ref w.1) ∧ (∀ w ∈ ws, F w.1 = some (.lst w.2)) ∧ RepL K c al F (ws.flatMap (·.2)) yss.flatten
  | _, _, _, .nil, h => by cases h; exact ⟨[], rfl, (fun w z => nomatch z), .nil⟩
  | _, _, _, .cons (d := d) (ds := ds) a r, h => by
    cases a with
    | @lst b vs xs hf rf =>
      unfold lstsD at h
      cases e : lstsD ds with
      | none => rw [e] at h; cases h
      | some yss =>
        rw [e] at h; cases h
        obtain ⟨ws, h1, h2, h3⟩ := lsts_rep r e
        refine ⟨(b, vs) :: ws, by rw [h1]; rfl, fun w hw => ?_, by rw [List.flatMap_cons, List.flatten_cons]; exact rf.app h3⟩
        rcases List.mem_cons.mp hw with rfl | hw
        · exact hf
        · exact h2 w hw
    | _ => cases h
theorem lo_sum : LOn K (rSumL K) sumD := fun c w s vs xs Q E o r h => by
  unfold sumD at h
  split at h
  · rename_i xs acc
    obtain ⟨v, u, rfl, rv, ru⟩ := r.two
    cases rv with
    | @lst a vs ds hf rf =>
      cases ru with
      | @lst p us es hg rg =>
        cases e : lstsD xs with
        | none => rw [e] at h; exact h.elim
        | some yss =>
          rw [e] at h
          obtain ⟨ws, h1, h2, h3⟩ := lsts_rep rf e
          have hall := rg.app h3
          refine ⟨a, p, ws, us, rfl, by rw [← h1]; exact SqL.of (o.fro _ _ hf), fun w hw => o.fro _ _ (h2 w hw), o.fro _ _ hg, by rw [hall.len]; exact h.1, fun hws => ?_, fun hws q hq => ?_⟩
          · subst hws
            have e0 : yss.flatten = [] := List.eq_nil_of_length_eq_zero (by rw [← h3.len]; rfl)
            have h2 := h.2
            rw [e0, List.append_nil] at h2
            exact h2 _ (Go.refl ..) o _ (.lst hg rg)
          · obtain ⟨o2, g2⟩ := o.lay (o := .lst (us ++ ws.flatMap (·.2))) hq notOwn.1
            exact h.2 _ g2 o2 (.ref q) (.lst upd_same (hall.up g2.sub))
  · exact h.elim
theorem ints_rep {c : Cg} {al : List Addr} {F : Hp} : ∀ {vs : List V} {ds : List D} {ns : List Int}, RepL K c al F vs ds → intsD ds = some ns → vs = ns.map V.int
  | _, _, _, .nil, h => by cases h; rfl
  | _, _, _, .cons (d := d) (ds := ds) a r, h => by
    cases a with
    | int i =>
      unfold intsD at h
      cases e : intsD ds with
      | none => rw [e] at h; cases h
      | some ns => rw [e] at h; cases h; rw [ints_rep r e]; rfl
    | _ => cases h
@[reducible] def dMaxD (fa fd : List Sl → W D) : List Sl → W D := fun δ => (fa δ).bind fun x => (fd δ).bind fun d => match x with
  | .lst xs => (match intsD xs with
    | some [] => W.ret d
    | some (y :: ys) => W.ret (.int (ys.foldl max y))
    | none => W.stuck)
  | _ => W.stuck
theorem le_maxD {ta td : XK → TE} {fa fd : List Sl → W D} (ha : LE K ta fa) (hd : LE K td fd) : LE K (fun E => tMaxD K (ta E) (td E)) (dMaxD fa fd) := fun c w s σ δ Q E o sl h =>
  ha c w s σ δ _ E o sl (h.bind.mono fun x w1 s1 g1 o1 q v r1 => hd c w1 s1 σ δ _ E o1 (sl.go g1) (q.bind.mono fun y w2 s2 g2 o2 q2 u r2 => by
    cases r1 with
    | @lst a vs ds hf rf =>
      dsimp only at q2
      cases e : intsD ds with
      | none => rw [e] at q2; exact q2.elim
      | some ns =>
        rw [e] at q2
        have ev := ints_rep rf e
        subst ev
        refine ⟨a, ns, rfl, SqL.of (o2.fro _ _ (g2.sub.le _ _ hf)), fun hn => ?_, fun y ys hn => ?_⟩
        · subst hn; exact q2.ret o2 u r2
        · subst hn; exact q2.ret o2 _ (.int _)
    | _ => exact q2.elim))
/-! ### sets of signs, a text turned round -/
@[reducible] def dLenSet (fa : List Sl → W D) : List Sl → W D := fun δ => (fa δ).bind fun x => match x with
  | .str y => W.need (y.cps.size < 4000) (W.ret (.int (uniq [] y.cps.toList).length))
  | _ => W.stuck
theorem le_lenSet {ta : XK → TE} {fa : List Sl → W D} (ha : LE K ta fa) : LE K (fun E => tLenSetS (ta E)) (dLenSet fa) := fun c w s σ δ Q E o sl h =>
  ha c w s σ δ _ E o sl (h.bind.mono fun x w1 s1 g1 o1 q v r1 => by
    cases r1 with
    | str y => exact ⟨y, rfl, q.1, q.2 _ (Go.refl ..) o1 _ (.int _)⟩
    | _ => exact q.elim)
@[reducible] def dRevS (f : List Sl → W D) : List Sl → W D := fun δ => (f δ).bind fun d => match d with
  | .str x => W.need (x.length ≤ sizeLine) (W.ret (.str (revS x)))
  | _ => W.stuck
theorem le_revS {te : XK → TE} {f : List Sl → W D} (he : LE K te f) : LE K (fun E => tRevS (te E)) (dRevS f) := fun c w s σ δ Q E o sl h =>
  he c w s σ δ _ E o sl (h.bind.mono fun x w1 s1 g1 o1 q v r1 => by
    cases r1 with
    | str y => exact ⟨y, rfl, q.1, q.2 _ (Go.refl ..) o1 _ (.str _)⟩
    | _ => exact q.elim)
/-- the signs of a text, each once, in an order -/
@[reducible] def dSortSet (fa : List Sl → W D) : List Sl → W D := fun δ => (fa δ).bind fun x => match x with
  | .str y => W.need (y.cps.size < 60) (W.any 0 fun d => ∃ cs : List Nat, d = .lst (cs.map fun c => .str (sgn c)) ∧ cs.length = (uniq [] y.cps.toList).length ∧ ∀ c, c ∈ cs ↔ c ∈ uniq [] y.cps.toList)
  | _ => W.stuck
theorem rep_signs {c : Cg} {al : List Addr} {F : Hp} : ∀ cs : List Nat, RepL K c al F (cs.map fun c => V.str (sgn c)) (cs.map fun c => D.str (sgn c))
  | [] => .nil
  | k :: r => .cons (.str _) (rep_signs r)
theorem le_sortSet {ta : XK → TE} {fa : List Sl → W D} (ha : LE K ta fa) : LE K (fun E => tSortSet (ta E)) (dSortSet fa) := fun c w s σ δ Q E o sl h =>
  ha c w s σ δ _ E o sl (h.bind.mono fun x w1 s1 g1 o1 q v r1 => by
    cases r1 with
    | str y =>
      obtain ⟨q1, k, hk, q2⟩ := q
      refine ⟨y, rfl, q1, fun p cs hp hl hm => ?_⟩
      have ek : (⟨k, s1.st⟩ : S) = s1 := by
        have : s1.n = k := hk
        rw [← this]
      obtain ⟨o2, g2⟩ := o1.lay (o := .lst (cs.map fun c => V.str (sgn c))) hp notOwn.1
      exact q2 _ ⟨cs, rfl, hl, hm⟩ _ g2 (by rw [ek]; exact o2) (.ref p) (.lst upd_same (rep_signs cs))
    | _ => exact q.elim)
/-! ### a text walked -/
@[reducible] def dIS (f : List Sl → W D) : List Sl → W (List D) := fun δ => (f δ).bind fun d => match d with | .str x => W.ret (x.cps.toList.map fun c => D.str ⟨#[c]⟩) | _ => W.stuck
theorem li_str {te : XK → TE} {f : List Sl → W D} (he : LE K te f) : LI K (fun E => iStr (te E)) (dIS f) := fun c w s σ δ R E o sl h =>
  he c w s σ δ _ E o sl (h.bind.mono fun d w1 s1 g1 o1 p v r1 => by
    cases r1 with
    | str x =>
      refine ⟨x, rfl, p.ret o1 _ fun i w2 s2 l2 o2 => ⟨fun d hd => ?_, fun hl => ?_⟩⟩
      · rw [List.getElem?_map] at hd
        cases e : x.cps.toList[i]? with
        | none => rw [e] at hd; cases hd
        | some k =>
          rw [e] at hd; cases hd
          have e2 : x.cps[i]? = some k := by simpa using e
          refine ⟨(Array.getElem?_eq_some_iff.mp e2).1, fun y H3 hy => ?_⟩
          obtain ⟨rfl, c', hc', rfl⟩ := hy
          rw [e2] at hc'; cases hc'
          exact ⟨w2, rfl, Go.refl .., o2, .str _⟩
      · show x.cps.size ≤ i
        simpa using hl
    | _ => exact p.elim)
/-! ### is of bools, repr, text * int, powers -/
@[reducible] def isBD : D → D → W D
  | .bl a, .bl b => W.ret (.bl (decide (a = b)))
  | _, _ => W.stuck
theorem lo_isB : LO2 K rIsB isBD := fun c w s v u x y Q E o rx ry h => by
  cases rx with
  | bl i => cases ry with
    | bl j => exact ⟨i, j, rfl, rfl, h _ (Go.refl ..) o _ (.bl _)⟩
    | _ => exact h.elim
  | _ => exact h.elim
@[reducible] def reprD : List D → W D
  | [x] => match toP x with
    | some d => W.need (d.showable = true ∧ d.depth ≤ 60 ∧ d.hasDict = false ∧ d.shown.length ≤ sizeLine) (W.ret (.str d.shown))
    | none => W.stuck
  | _ => W.stuck
theorem lo_repr : LOn K (Lx.rRepr K) reprD := fun c w s vs xs Q E o r h => by
  unfold reprD at h
  split at h
  · obtain ⟨v, rfl, rv⟩ := r.one
    split at h
    · rename_i d e
      exact ⟨v, d, rfl, rv.dp o.fro e, h.1.1, h.1.2.1, h.1.2.2.1, h.1.2.2.2, h.2 _ (Go.refl ..) o _ (.str _)⟩
    · exact h.elim
  · exact h.elim
@[reducible] def powD : D → D → W D
  | .int i, .int j => W.need (CPow i j) (W.ret (.int (i ^ j.toNat)))
  | _, _ => W.stuck
theorem lo_pow : LO2 K (rI CPow fun i j => .int (i ^ j.toNat)) powD := fun c w s v u x y Q E o rx ry h => by
  cases rx with
  | int i => cases ry with
    | int j => exact ⟨i, j, rfl, rfl, h.1, h.2 _ (Go.refl ..) o _ (.int _)⟩
    | _ => exact h.elim
  | _ => exact h.elim
def rMulU : R2 := fun x y H Q => (∃ i j, x = .str i ∧ y = .int j ∧ PySem.MulOk i j ∧ Q (.str (Txt.mul i j)) H) ∨ (rI CMul fun i j => .int (i * j)) x y H Q
theorem op_mulS {X : Cx} : OpR X (binaryOp .Mult) (fun x y H Q => ∃ i j, x = .str i ∧ y = .int j ∧ PySem.MulOk i j ∧ Q (.str (Txt.mul i j)) H) := by
  intro pins s σ H x y u v Q I rx ry h
  obtain ⟨i, j, rfl, rfl, hm, q⟩ := h
  obtain ⟨t1, rfl⟩ := rx
  obtain ⟨t2, rfl⟩ := ry
  exact PySem.SB.mul hm fun t' k => ⟨.str (Txt.mul i j), H, I.tok k, ⟨t', rfl⟩, q⟩
theorem op_mulU {X : Cx} : OpR X (binaryOp .Mult) rMulU := op_mulS.or op_mul
@[reducible] def mulUD : D → D → W D
  | .str i, .int j => W.need (PySem.MulOk i j) (W.ret (.str (Txt.mul i j)))
  | .int i, .int j => W.need (CMul i j) (W.ret (.int (i * j)))
  | _, _ => W.stuck
theorem lo_mulU : LO2 K rMulU mulUD := fun c w s v u x y Q E o rx ry h => by
  cases rx with
  | int i => cases ry with
    | int j => exact .inr ⟨i, j, rfl, rfl, h.1, h.2 _ (Go.refl ..) o _ (.int _)⟩
    | _ => exact h.elim
  | str i => cases ry with
    | int j => exact .inl ⟨i, j, rfl, rfl, h.1, h.2 _ (Go.refl ..) o _ (.str _)⟩
    | _ => exact h.elim
  | _ => exact h.elim
/-! ### written dicts -/
theorem le_dct0 : LE K (fun _ => tDNewK) (dC (.dct [])) := fun c w s σ δ Q E o sl h p hp => by
  obtain ⟨o2, g2⟩ := o.lay (o := .dK []) hp notDk.1
  exact h _ g2 o2 (.ref p) (.dct upd_same .nil)
theorem le_dct1 {k v : Str} : LE K (fun _ => tDisp [(tC (.str k), tC (.str v))]) (dC (.dct [(Sum.inr k, .str v)])) := fun c w s σ δ Q E o sl h p hp => by
  refine ⟨upd_same, [(Sum.inr k, .str v)], rfl, by show 1 ≤ 15; decide, ?_⟩
  rw [upd_upd]
  obtain ⟨o2, g2⟩ := o.lay (o := .dK (mergeK [] [(Sum.inr k, .str v)])) hp notDk.1
  exact h _ g2 o2 (.ref p) (.dct upd_same (.cons (.str v) .nil))
end

/-! ### the draw -/
@[reducible] def drawD : List D → W D
  | [.pen, .int m] => W.need (0 < m ∧ m < 1073741824) (W.any 1 fun d => ∃ i : Int, d = .int i ∧ 0 ≤ i ∧ i < m)
  | _ => W.stuck
def noTbl (F : Hp) : Hp := fun a => match F a with | some (.tbl _) => none | o => o
theorem noTbl_le {F H : Hp} (e : Le F H) : Le (noTbl F) H := fun a o h => by
  unfold noTbl at h
  split at h
  · cases h
  · exact e a o h
theorem noTbl_get {F : Hp} {a : Addr} {o : HO} (h : F a = some o) (nt : ∀ ps, o ≠ .tbl ps) : noTbl F a = some o := by
  unfold noTbl
  rw [h]
  split
  · rename_i ps e; cases e; exact absurd rfl (nt ps)
  · rfl
theorem noTbl_none {F : Hp} {a : Addr} (h : F a = none) : noTbl F a = none := by unfold noTbl; rw [h]
theorem noTbl_sq {K : PySem.W.Frag} {F : Hp} {a : Addr} {xs : List V} (h : SqL K F a xs) : SqL K (noTbl F) a xs := by
  rcases h with (h | ⟨o, h⟩) | h
  · exact .inl (.inl (noTbl_get h fun _ z => by cases z))
  · exact .inl (.inr ⟨o, noTbl_get h fun _ z => by cases z⟩)
  · exact .inr h
theorem draw_pure {K : PySem.W.Frag} {vs : List V} {H : Hp} {Q : VK} {E : XK} (h : Pr K 2 drawD vs H Q E) : Lx.Pr K 2 Lx.drawD vs H Q E := by
  obtain ⟨c, w, s, ds, rfl, o, r, dl, q⟩ := h
  match ds, r, q with
  | [.pen, .int m], r, q =>
    obtain ⟨v, u, rfl, rv, ru⟩ := r.two
    cases rv
    cases ru
    obtain ⟨hm, k, hk, q⟩ := q
    refine ⟨c.pn, w.F, [.pen, .int m], s.n, ⟨o.fro, o.fpn, o.pen⟩, .cons .pen (.cons (.int m) .nil), rfl, hm, k, hk, fun a ha v2 F' H' g' o' r' => ?_⟩
    obtain ⟨i, rfl, i0, i1⟩ := ha
    have np : ∀ {a : Addr} {u : HO}, w.H a = some u → (∀ l t lf, u ≠ .dK (Lx.penKvs l t lf)) → a ≠ c.pn := fun {a u} e n z => by
      subst z
      obtain ⟨l, cs, t, lf, hp, _⟩ := o.pen
      rw [e] at hp
      exact n l t lf (Option.some.inj hp)
    have na : ∀ a ∈ w.al, a ≠ c.pn := fun a z e => o.pna (e ▸ z)
    have same : ∀ a ∈ w.al, H' a = w.H a := fun a z => by
      cases q2 : w.H a with
      | none => exact absurd q2 (o.occ a z)
      | some u => exact g'.keep a u (na a z) q2
    have sb : Sub w.al w.F w.al (noTbl F') := ⟨List.prefix_refl _, fun a u e => noTbl_get (g'.sub a u e) fun ps z => o.ftb a ps (by rw [e, z])⟩
    have o2 : Ok K c ⟨w.al, noTbl F', H'⟩ ⟨k, s.st⟩ := by
      refine ⟨noTbl_le o'.fro, noTbl_none o'.fpn, o.pna, o.nd, o.len, fun a z => ?_, ?_, fun p hp => ?_, fun a ps e => ?_, fun a z ps => ?_, fun a z φ => ?_, fun j a m2 e1 e2 => ?_⟩
      · show H' a ≠ none
        rw [same a z]; exact o.occ a z
      · obtain ⟨l, cs, t, lf, h1, h2, h3⟩ := o'.pen
        exact ⟨l, cs, t, lf, h1, noTbl_sq h2, h3⟩
      · obtain ⟨ps, h1, h2, h3⟩ := o.tab p hp
        refine ⟨ps, g'.keep _ _ (np h1 fun _ _ _ z => by cases z) h1, h2, fun pos cv hc => ?_⟩
        obtain ⟨d, e1, e2⟩ := h3 pos cv hc
        exact ⟨d, e1, g'.keep _ _ (np e2 fun _ _ _ z => by unfold LamX.CodeO at z; cases z) e2⟩
      · have e : noTbl F' a = some (.tbl ps) := e
        unfold noTbl at e
        split at e
        · cases e
        · rename_i hn; exact hn ps e
      · show H' a ≠ _
        rw [same a z]; exact o.atb a z ps
      · show H' a ≠ _
        rw [same a z]; exact o.aco a z φ
      · have hm2 := List.mem_of_getElem? e1
        refine (o.sto j a m2 e1 e2).of sb (same a hm2) fun z => noTbl_none ?_
        cases q3 : F' a with
        | none => rfl
        | some u => exact absurd (g'.new a u q3 z) (o.occ a hm2)
    have g2 : Go c w ⟨w.al, noTbl F', H'⟩ := by
      refine ⟨fun a u n1 _ _ e => g'.keep a u n1 e, sb, fun a u e n => .inl (Wd.fre_none ?_), fun a z => .inl z⟩
      have e : noTbl F' a = some u := e
      cases q3 : F' a with
      | none => rw [noTbl_none q3] at e; cases e
      | some u2 => exact g'.new a u2 q3 n
    cases r'
    exact q (.int i) ⟨i, rfl, i0, i1⟩ _ g2 o2 _ (.int i)
end Ly
set_option Elab.async false
set_option linter.all false
set_option maxRecDepth 100000
set_option maxHeartbeats 4000000
/-! Ly9: x(lambda: e), x a def that calls what it got and catches an own error. -/
namespace Ly
open PySem PySem.Spec L2 PyProof.Rows He
open Lx (Le)

/-- isinstance(e, c), e the exception (with a dict) that the suite holds -/
def rIsED (K : PySem.W.Frag) (C a : Addr) (d : Option Addr) : List V → Hp → VK → Prop := fun xs H Q => ∃ (c : V) (cv : Value) (b : Bool) (dd : Addr) (fs : List (Str × V)), xs = [.ref a, c] ∧ (∀ u, RelV c u → u = cv) ∧ d = some dd ∧ H dd = some (.xd fs) ∧ PySem.W.kitOne K (.ref C) cv = some b ∧ Q (.bl b) H
theorem call_isED {X : Cx} {a C : Addr} {oe : Obj} {cls : Value} {d : Option Addr} {pn : List (Addr × Obj)} (T : ExcC X.K C) (hcl : cls = .ref C) (hz : Zc cls d oe) (hf : ∃ vs, oe.data = .fields vs) : CallR (X.suite a ((a, oe) :: pn)) (.builtin "isinstance") (rIsED X.K C a d) := by
  intro pins s σ H xs us Q I r h
  obtain ⟨c, cv, b, dd, fs, rfl, hcv, ed, ea, e, q⟩ := h
  obtain ⟨u1, u2, rfl, r1, r2⟩ := vals2 r
  cases r1
  have ec := hcv _ r2
  subst ec ed hcl
  obtain ⟨hget, _⟩ := I.pin (a, oe) (List.mem_append.mpr (.inl List.mem_cons_self))
  obtain ⟨vs, hv⟩ := hf
  have hx : ObjOk X.prog X.w H s.heap dd (.xd fs) := I.hok dd _ ea
  obtain ⟨mA, hns, hr⟩ := hx
  obtain ⟨od, ho, hl⟩ := lookIn_ns hns
  have J : PySem.W.InstAt s.heap a oe C (some od) := ⟨hget, hz.1, by unfold PySem.W.notCls; rw [hv] <;> rfl, by rw [hz.2]; exact ho⟩
  have hcls : (PySem.W.clsIn X.K C).isSome = true := by
    obtain ⟨cd, hc, _⟩ := PySem.W.any_some T.hd
    rw [hc]; rfl
  exact PySem.W.kia_one (PySem.W.kitx_exc hcls T.hg T.hk T.hs T.ha T.hn T.ht T.hm) I.kIn J e (fun z => nomatch z) fun tk => ⟨.bl b, H, I.kept (t' := tk) fun _ _ z => z, rfl, q⟩
theorem takes_len {X : Cx} {W : WX} (t : Takes X W) : Takes X (fun cls d σ H => σ.length = X.N.length → W cls d σ H) := fun u s' x => by
  obtain ⟨a, B, sI, pins, σ, H, cls, d, e, I, nb, up, sky, na, os, ag, w⟩ := x
  exact t u s' ⟨a, B, sI, pins, σ, H, cls, d, e, I, nb, up, sky, na, os, ag, w I.len⟩
/-- what is caught -/
def XQ (C : Addr) (fld : Str) (R : V → Hp → Prop) : XK := fun cls d H' => cls = .ref C ∧ ∃ dx fs v, d = some dx ∧ H' dx = some (.xd fs) ∧ fs.lookup fld = some v ∧ R v H'
/-- facts of the class that is caught -/
structure CatC (K : PySem.W.Frag) (C : Addr) (fld : Str) : Prop where
  exm : PySem.W.exmOne K (.ref C) (.ref C) = some true
  xf : XfC K C
  no : PySem.W.findIn K (.ref C) fld = some none
  ec : ExcC K C
  ve : PySem.W.kitOne K (.ref C) (.type "ValueError") = some true
/-- try: a() / except x as e: return [e.fld, isinstance(e, ValueError)] / return None -/
def TRef (C : Addr) (fld : Str) : (XK → Hp → VK → Prop) → Hp → VK → Prop := fun tl H Q => tl (XQ C fld fun v H' => ∀ p, H' p = none → Q (.ref p) (upd H' p (.lst [v, .bl true]))) H (fun _ H' => Q .non H')
/-- try: return a() / except x as e: return ("wrong", e.fld, isinstance(e, ValueError)) -/
def TCau (C : Addr) (fld : Str) : (XK → Hp → VK → Prop) → Hp → VK → Prop := fun tl H Q => tl (XQ C fld fun v H' => ∀ p, H' p = none → Q (.ref p) (upd H' p (.tup [.str "wrong", v, .bl true]))) H Q
section
variable {X : Cx}
theorem gives_ref {a e q fld fn : Str} {sg : Scope} {g C : Addr} {cdg : Value} {p1 p2 p3 p4 p5 p6 p7 p8 p9 p10 p11 p12 p13 p14 p15 p16 : Pos} {j : Nat} (T : CatC X.K C fld) (hne : a ≠ "e") (hge : sg.names.lookup e = some .globalImplicit) (hme : X.mg e = some (.ref C)) (hde : (e == ("__debug__" : Str)) = false)
    (hle : sg.names.lookup ("e" : Str) = some .local) (hgi : sg.names.lookup ("isinstance" : Str) = some .globalImplicit) (hmi : X.mg "isinstance" = none) (hgv : sg.names.lookup ("ValueError" : Str) = some .globalImplicit) (hmv : X.mg "ValueError" = none) :
    LamX.GivesTo X [a, "e"] fn sg g cdg [.Try [.Expr (.Call (.Name a p1) [] [] p2) p3] [.ExceptHandler (some (.Name e p4)) (some "e") [.Return (some (.List [.Attribute (.Name "e" p5) fld p6, .Call (.Name "isinstance" p7) [.Name "e" p8, .Name "ValueError" p9] [] p10] p11)) p12] p13] [] [] p14, .Return (some (.Constant .none j p15)) p16] a q (TRef C fld) := by
  intro f c' s H Q tl act hc h
  have nd : ([a, "e"] : List Str).Nodup := by simp [hne]
  let X0 : Cx := cxOf C8.CX0 X.prog X.w X.K X.mg X.base [a, "e"] fn sg g cdg X.A X.stack s H C8.E0
  have hgl : Gl X0.nox e := hge
  refine ⟨_, pss_cons (ps_try_as (X := X0.nox) (c := .ref C) (i := 1) (n := "e") (Wout := fun _ _ _ _ => False)
      (tb := fun W D σ H => σ.length = 2 ∧ ∃ Ech : XK, (∀ cls d σ' H', σ'.length = 2 → Ech cls d H' → W cls d σ' H') ∧ σ[0]? = some (some (.ref f)) ∧ H c' = some (LamX.CodeO c' q) ∧ tl Ech H (fun _ H1 => D.nx σ H1))
      (ts := fun b cls d D σ H => cls = .ref C ∧ tRet (tLst (tCons (tXf b cls d C fld (tVar 1)) (tCons (tCB (rIsED X.K C b d) (tCons (tVar 1) (tCons (tC (.ty "ValueError")) tNil))) tNil))) D σ H)
      rfl rfl nd rfl hle ⟨hgl, hde, .inl hme⟩ LamX.takes0 (fun W pn xe tk _ => ?_) (fun b oe cls d pn hz hf => ?_)) (pss_one (ps_ret pe_non)), ?_⟩
  · refine ⟨fun pins s' σ H' D I h' => ?_⟩
    obtain ⟨hl, Ech, hW, h1, h2, h3⟩ := h'
    have hp := act (fun cls d σ' H' => σ'.length = 2 → W cls d σ' H') pn xe Ech p1 p2 (takes_len tk) (fun cls d σ' H' e z => hW cls d σ' H' z e)
    have hq := pss_one (ps_expr (pos := p3) hp)
    exact hq.run pins s' σ H' D I ⟨h1, h2, h3⟩
  · refine ⟨fun pins s' σ H' D I h' => ?_⟩
    obtain ⟨hcl, h'⟩ := h'
    have ve : Vis sg "e" := .inl hle
    have pe1 : PE (X0.nox.suite b ((b, oe) :: pn)) (.Name "e" p5) (tVar 1) := pe_var (i := 1) rfl ve
    have pe2 : PE (X0.nox.suite b ((b, oe) :: pn)) (.Name "e" p8) (tVar 1) := pe_var (i := 1) rfl ve
    have hq : PSs (X0.nox.suite b ((b, oe) :: pn)) [.Return (some (.List [.Attribute (.Name "e" p5) fld p6, .Call (.Name "isinstance" p7) [.Name "e" p8, .Name "ValueError" p9] [] p10] p11)) p12] _ :=
      pss_one (ps_ret (pe_lst (pa_cons (pe_xf (X := X0.nox) T.xf T.no hz hf pe1) (pa_cons (pe_callB (call_isED (X := X0.nox) T.ec hcl hz hf) hgi hmi boot_isinstance (pa_cons pe2 (pa_cons (show PE (X0.nox.suite b ((b, oe) :: pn)) (.Name "ValueError" p9) (tC (.ty "ValueError")) from pe_bltn hgv hmv Boot.«ValueError» rfl) pa_nil))) pa_nil))))
    exact hq.run pins s' σ H' D I h'
  · refine ⟨rfl, XQ C fld fun v H' => ∀ p, H' p = none → Q (.ref p) (upd H' p (.lst [v, .bl true])), fun cls d σ' H' hl hx => ?_, rfl, hc, h⟩
    obtain ⟨ec, dx, fs, v, ed, hd, hv, hq⟩ := hx
    subst ec
    refine ⟨true, T.exm, fun _ b _ => ⟨rfl, ?_⟩, fun z => by cases z⟩
    have g1 : (σ'.set 1 (some (V.ref b)))[1]? = some (some (V.ref b)) := List.getElem?_set_self (by omega)
    refine ⟨_, g1, rfl, rfl, dx, fs, v, ed, hd, hv, ?_⟩
    refine ⟨_, g1, .ty "ValueError", .type "ValueError", true, dx, fs, rfl, fun u hu => hu, ed, hd, T.ve, ?_⟩
    exact ⟨by rw [sizeLine_eq]; show 2 ≤ 16777216; decide, fun p hp => hq p hp⟩
theorem gives_cau {a e q fld fn : Str} {sg : Scope} {g C : Addr} {cdg : Value} {p1 p2 p3 p4 p5 p6 p7 p8 p9 p10 p11 p12 p13 p14 p15 : Pos} {j j2 : Nat} (T : CatC X.K C fld) (hne : a ≠ "e") (hge : sg.names.lookup e = some .globalImplicit) (hme : X.mg e = some (.ref C)) (hde : (e == ("__debug__" : Str)) = false)
    (hle : sg.names.lookup ("e" : Str) = some .local) (hgi : sg.names.lookup ("isinstance" : Str) = some .globalImplicit) (hmi : X.mg "isinstance" = none) (hgv : sg.names.lookup ("ValueError" : Str) = some .globalImplicit) (hmv : X.mg "ValueError" = none) :
    LamX.GivesTo X [a, "e"] fn sg g cdg [.Try [.Return (some (.Call (.Name a p1) [] [] p2)) p3] [.ExceptHandler (some (.Name e p4)) (some "e") [.Return (some (.Tuple [.Constant (.str "wrong") j p15, .Attribute (.Name "e" p5) fld p6, .Call (.Name "isinstance" p7) [.Name "e" p8, .Name "ValueError" p9] [] p10] j2 p11)) p12] p13] [] [] p14] a q (TCau C fld) := by
  intro f c' s H Q tl act hc h
  have nd : ([a, "e"] : List Str).Nodup := by simp [hne]
  let X0 : Cx := cxOf C8.CX0 X.prog X.w X.K X.mg X.base [a, "e"] fn sg g cdg X.A X.stack s H C8.E0
  have hgl : Gl X0.nox e := hge
  refine ⟨_, pss_one (ps_try_as (X := X0.nox) (c := .ref C) (i := 1) (n := "e") (Wout := fun _ _ _ _ => False)
      (tb := fun W D σ H => σ.length = 2 ∧ ∃ Ech : XK, (∀ cls d σ' H', σ'.length = 2 → Ech cls d H' → W cls d σ' H') ∧ σ[0]? = some (some (.ref f)) ∧ H c' = some (LamX.CodeO c' q) ∧ tl Ech H D.rt)
      (ts := fun b cls d D σ H => cls = .ref C ∧ tRet (tTup (tCons (tC (.str "wrong")) (tCons (tXf b cls d C fld (tVar 1)) (tCons (tCB (rIsED X.K C b d) (tCons (tVar 1) (tCons (tC (.ty "ValueError")) tNil))) tNil)))) D σ H)
      rfl rfl nd rfl hle ⟨hgl, hde, .inl hme⟩ LamX.takes0 (fun W pn xe tk _ => ?_) (fun b oe cls d pn hz hf => ?_)), ?_⟩
  · refine ⟨fun pins s' σ H' D I h' => ?_⟩
    obtain ⟨hl, Ech, hW, h1, h2, h3⟩ := h'
    have hp := act (fun cls d σ' H' => σ'.length = 2 → W cls d σ' H') pn xe Ech p1 p2 (takes_len tk) (fun cls d σ' H' e z => hW cls d σ' H' z e)
    have hq := pss_one (ps_ret (pos := p3) hp)
    exact hq.run pins s' σ H' D I ⟨h1, h2, h3⟩
  · refine ⟨fun pins s' σ H' D I h' => ?_⟩
    obtain ⟨hcl, h'⟩ := h'
    have ve : Vis sg "e" := .inl hle
    have pe1 : PE (X0.nox.suite b ((b, oe) :: pn)) (.Name "e" p5) (tVar 1) := pe_var (i := 1) rfl ve
    have pe2 : PE (X0.nox.suite b ((b, oe) :: pn)) (.Name "e" p8) (tVar 1) := pe_var (i := 1) rfl ve
    have hq : PSs (X0.nox.suite b ((b, oe) :: pn)) [.Return (some (.Tuple [.Constant (.str "wrong") j p15, .Attribute (.Name "e" p5) fld p6, .Call (.Name "isinstance" p7) [.Name "e" p8, .Name "ValueError" p9] [] p10] j2 p11)) p12] _ :=
      pss_one (ps_ret (pe_tup (pa_cons pe_str (pa_cons (pe_xf (X := X0.nox) T.xf T.no hz hf pe1) (pa_cons (pe_callB (call_isED (X := X0.nox) T.ec hcl hz hf) hgi hmi boot_isinstance (pa_cons pe2 (pa_cons (show PE (X0.nox.suite b ((b, oe) :: pn)) (.Name "ValueError" p9) (tC (.ty "ValueError")) from pe_bltn hgv hmv Boot.«ValueError» rfl) pa_nil))) pa_nil)))))
    exact hq.run pins s' σ H' D I h'
  · refine ⟨rfl, XQ C fld fun v H' => ∀ p, H' p = none → Q (.ref p) (upd H' p (.tup [.str "wrong", v, .bl true])), fun cls d σ' H' hl hx => ?_, rfl, hc, h⟩
    obtain ⟨ec, dx, fs, v, ed, hd, hv, hq⟩ := hx
    subst ec
    refine ⟨true, T.exm, fun _ b _ => ⟨rfl, ?_⟩, fun z => by cases z⟩
    have g1 : (σ'.set 1 (some (V.ref b)))[1]? = some (some (V.ref b)) := List.getElem?_set_self (by omega)
    refine ⟨_, g1, rfl, rfl, dx, fs, v, ed, hd, hv, ?_⟩
    refine ⟨_, g1, .ty "ValueError", .type "ValueError", true, dx, fs, rfl, fun u hu => hu, ed, hd, T.ve, ?_⟩
    exact ⟨by rw [sizeLine_eq]; show 3 ≤ 16777216; decide, fun p hp => hq p hp⟩
end

/-! ### as data -/
@[reducible] def catR (cls fld : Str) (m : W D) : W D := ⟨fun s Q _ => m.wp s (fun t _ => Q t .non) (fun t x => x.cls = cls ∧ ∃ v, x.fs.lookup fld = some v ∧ Q t (.lst [v, .bl true])), fun h _ p => m.mono (fun _ _ q => h _ _ q) (fun _ _ ⟨e, v, l, q⟩ => ⟨e, v, l, h _ _ q⟩) p⟩
@[reducible] def catT (cls fld : Str) (m : W D) : W D := ⟨fun s Q _ => m.wp s Q (fun t x => x.cls = cls ∧ ∃ v, x.fs.lookup fld = some v ∧ Q t (.tup [.str "wrong", v, .bl true])), fun h _ p => m.mono (fun _ _ q => h _ _ q) (fun _ _ ⟨e, v, l, q⟩ => ⟨e, v, l, h _ _ q⟩) p⟩
section
variable {K : PySem.W.Frag}
/-- the tables have grown -/
theorem Ok.grow {c : Cg} {w : Wd} {s : S} {H1 : Hp} (o : Ok K c w s) (e : LamX.ExtN w.H H1) (t : LamX.Tabs (tabsOf K) H1) : Ok K c ⟨w.al, w.F, H1⟩ s ∧ Go c w ⟨w.al, w.F, H1⟩ := by
  have same : ∀ a ∈ w.al, H1 a = w.H a := fun a z => by
    cases q : w.H a with
    | none => exact absurd q (o.occ a z)
    | some u => exact e a u q fun ps y => o.atb a z ps (by rw [q, y])
  refine ⟨⟨fun a u h => e a u (o.fro a u h) fun ps z => o.ftb a ps (by rw [← z]; exact h), o.fpn, o.pna, o.nd, o.len, fun a z => ?_, ?_, t, o.ftb, fun a z ps => ?_, fun a z φ => ?_, fun i a m e1 e2 => (o.sto i a m e1 e2).of (Sub.refl _ _) (same a (List.mem_of_getElem? e1)) fun z => z⟩, fun a u _ _ nt h => e a u h nt, Sub.refl _ _, fun a u h n => (by have h : w.F a = some u := h; rw [n] at h; cases h), fun a z => .inl z⟩
  · show H1 a ≠ none
    rw [same a z]; exact o.occ a z
  · obtain ⟨l, cs, tt, lf, h1, r⟩ := o.pen
    exact ⟨l, cs, tt, lf, e _ _ h1 fun ps z => (by cases z), r⟩
  · show H1 a ≠ _
    rw [same a z]; exact o.atb a z ps
  · show H1 a ≠ _
    rw [same a z]; exact o.aco a z φ
theorem le_catR {tb : XK → TE} {fb : List Sl → W D} {cls fld : Str} (hb : LE K tb fb) : LE K (fun _ => LamX.tLam (tabsOf K) (TRef (ga K cls) fld) tb) (fun δ => catR cls fld (fb δ)) := fun c w s σ δ Q E o sl h => by
  refine ⟨o.tab, fun H1 eN hT => ?_⟩
  obtain ⟨o1, g1⟩ := o.grow eN hT
  refine hb c ⟨w.al, w.F, H1⟩ s σ δ _ _ o1 (sl.go g1) ((fb δ).mono (fun t d z w' g' o' v rv => ?_) (fun t x z w' g' o' cl d rx => ?_) h)
  · exact z w' (g1.trans g' o') o' .non .non
  · obtain ⟨e1, v, l, z⟩ := z
    obtain ⟨ec, dx, fs, ed, hd, rf⟩ := rx
    obtain ⟨u, hu, ru⟩ := rf.look l
    refine ⟨by rw [ec, e1], dx, fs, u, ed, hd, hu, fun p hp => ?_⟩
    obtain ⟨o2, g2⟩ := o'.lay (o := .lst [u, .bl true]) hp notOwn.1
    exact z _ ((g1.trans g' o').trans g2 o2) o2 (.ref p) (.lst upd_same (.cons (ru.up g2.sub) (.cons (.bl true) .nil)))
theorem le_catT {tb : XK → TE} {fb : List Sl → W D} {cls fld : Str} (hb : LE K tb fb) : LE K (fun _ => LamX.tLam (tabsOf K) (TCau (ga K cls) fld) tb) (fun δ => catT cls fld (fb δ)) := fun c w s σ δ Q E o sl h => by
  refine ⟨o.tab, fun H1 eN hT => ?_⟩
  obtain ⟨o1, g1⟩ := o.grow eN hT
  refine hb c ⟨w.al, w.F, H1⟩ s σ δ _ _ o1 (sl.go g1) ((fb δ).mono (fun t d z w' g' o' v rv => ?_) (fun t x z w' g' o' cl d rx => ?_) h)
  · exact z w' (g1.trans g' o') o' v rv
  · obtain ⟨e1, v, l, z⟩ := z
    obtain ⟨ec, dx, fs, ed, hd, rf⟩ := rx
    obtain ⟨u, hu, ru⟩ := rf.look l
    refine ⟨by rw [ec, e1], dx, fs, u, ed, hd, hu, fun p hp => ?_⟩
    obtain ⟨o2, g2⟩ := o'.lay (o := .tup [.str "wrong", u, .bl true]) hp (fun _ z => by cases z)
    exact z _ ((g1.trans g' o').trans g2 o2) o2 (.ref p) (.tup upd_same (.cons (.str _) (.cons (ru.up g2.sub) (.cons (.bl true) .nil))))
end
end Ly
set_option Elab.async false
set_option linter.all false
set_option maxRecDepth 100000
set_option maxHeartbeats 4000000
/-! Ly10: == and != by an own __eq__. -/
namespace Ly
open PySem PySem.Spec L2 PyProof.Rows He
open Lx (Le Ky vTy rEqU rNeU op_eqU op_neU)

section
variable {prog : Program} {w : World} {A : Around} {E : Value → Shared → Prop} {s : Shared} {K : PySem.W.Frag} {x C f L : Addr} {ox : Obj} {od : Option Obj} {b tb : Value} {h₀ : Heap} {m : Str → Option Value}
/-- a special method that is a built-in slot of object -/
theorem ifBound_slot {M : Model} {name : Str} {id : String} {args : List Value} {Q : Option Value → Shared → Prop} (X : K.In s.heap) (I : PySem.W.InstAt s.heap x ox C od) (hs : PySem.W.findIn K (.ref C) name = some (some (.builtin id))) (S : Slot "object" name id)
    (h : wpAny M A (call (.builtin id) (.ref x :: args)) (fun v => Q (some v)) E s) : wpAny M A (callSpecialIfBound? (.ref x) name args) Q E s := by
  simp only [callSpecialIfBound?, bindSpecialIfBound?]
  refine wpAny_holding (wpAny_bind (wpAny_bind (wpAny_bind (I.type.here ((PySem.W.looks_findIn X hs).here ?_)))))
  refine wpAny_bind (wpAny_askSetting (wpAny_ite ?_))
  have last : wpAny M A (call (.builtin id) ([.ref x] ++ args) >>= fun v => pure (some v)) Q E s := wpAny_bind (wpAny_mono h (fun v s' h' => wpAny_pure h') fun _ _ h' => h')
  simp only [S.bind]
  split
  · exact wpAny_bind (wpAny_pure (wpAny_pure (by exact last)))
  · exact wpAny_tryCatch (wpAny_bind (wpAny_pure (wpAny_pure (by exact last))))
/-- x != b, by x's own __eq__ -/
theorem ne_own {Q : Value → Shared → Prop} (hu : A.units + 1 < cLine) (F0 : Fr h₀ L s.heap m) (X₀ : K.In h₀) (I : PySem.W.InstAt s.heap x ox C od) (hb : PySem.W.Looks (model prog w) s.heap (typeOf b) tb) (hn : PySem.W.notFirst K C tb = true)
    (hne : PySem.W.findIn K (.ref C) "__ne__" = some (some (.builtin "object.__ne__"))) (hs : PySem.W.findIn K (.ref C) "__eq__" = some (some (.ref f))) (hf : PySem.W.isFn K (.ref f) = true) (ho : PySem.W.subIn K (.ref C) (.type "object") = some true)
    (h : wpAny (model prog w) A.in1 (call (.ref f) [.ref x, b]) (fun v s' => ∃ r, v = .bool r ∧ Q (.bool (!r)) s') E s) : wpAny (model prog w) A (richCompare .NotEq (.ref x) b) Q E s := by
  have X := X₀.keeps F0.keep
  have one : wpAny (model prog w) A (tryCompare (.ref x) "__ne__" b) (fun r s' => ∃ v, r = some v ∧ Q v s') E s := by
    unfold tryCompare
    refine wpAny_bind (ifBound_slot X I hne F.cmp_object.ne ?_)
    have sub : PySem.W.Looks (model prog w) s.heap (isInstance (.ref x) (.type "object")) true := I.type.andThen (PySem.W.looks_subIn X ho)
    refine wpAny_call (codeAny_call_builtin F.cmp_object.ne.plain F.cmpEntry_ne ?_)
    refine @PySem.W.check_slot (model prog w) _ _ s "object.__ne__" "object" "__ne__" (.ref x) [b] [] _ F.cmpKind_ne F.cmpSplit_ne sub (F.cmpArgs_ne _ _) ?_
    unfold Builtin.«object.__ne__»
    refine wpAny_bind (wpAny_of_eq (a := ((Value.ref x : Value), [b])) (by first | rfl | (simp only [slotArgs]; rfl)) ?_)
    refine wpAny_bind (wpAny_cRoomFor hu ?_)
    refine wpAny_bind (PySem.W.ifBound_K X I hs hf (wpAny_mono h (fun v s' hv => ?_) fun _ _ e => e))
    obtain ⟨r, rfl, q⟩ := hv
    refine wpAny_bind (wpAny_truthy_bool ?_)
    exact wpAny_pure (wpAny_pure ⟨_, rfl, q⟩)
  unfold richCompare
  simp only [oneThing_ref]
  refine wpAny_holding (wpAny_bind (wpAny_cRoomFor (Nat.lt_of_succ_lt hu) ?_))
  refine wpAny_bind (I.type.here (wpAny_bind (hb.here ?_)))
  split
  · rename_i q
    have e : PySem.W.subIn K tb (.ref C) = some false := by
      rcases Bool.or_eq_true_iff.mp hn with e | e
      · rw [beq_iff_eq.mp e] at q; simp at q
      · exact beq_iff_eq.mp e
    refine wpAny_bind ((PySem.W.looks_subIn X e).here ?_)
    simp only [Bool.false_eq_true, if_false]
    refine wpAny_bind (wpAny_mono one (fun r s' z => ?_) fun _ _ e => e)
    obtain ⟨v, rfl, hq⟩ := z
    exact wpAny_pure hq
  · refine wpAny_bind (wpAny_pure ?_)
    simp only [Bool.false_eq_true, if_false]
    refine wpAny_bind (wpAny_mono one (fun r s' z => ?_) fun _ _ e => e)
    obtain ⟨v, rfl, hq⟩ := z
    exact wpAny_pure hq
end

/-! ### as readings -/
/-- an entry: what == of class cl does; tys: the types that may stand to the right -/
structure EEnt (X : Cx) (E : XK) (tys : List Ky) (cl : Str) (g : List D → W D) : Prop where
  ex : ∃ (CX : CXT) (k : Nat) (f : Addr) (fd : FuncData) (ps : List Str), Cls X.K (ga X.K cl) ∧ PySem.W.findIn X.K (.ref (ga X.K cl)) "__eq__" = some (some (.ref f)) ∧ PySem.W.isFn X.K (.ref f) = true ∧ PySem.W.findIn X.K (.ref (ga X.K cl)) "__ne__" = some (some (.builtin "object.__ne__")) ∧
    PySem.W.subIn X.K (.ref (ga X.K cl)) (.type "object") = some true ∧ (∀ t ∈ tys, PySem.W.notFirst X.K (ga X.K cl) (vTy X.K t) = true) ∧ FnOk X.prog X.w X.K X.mg X.base CX k f fd ps (Pr X.K 2 g) ∧ Room (k + 1) X.A ∧ Binds X.K fd ps [] ∧ Passes CX X E
inductive ETab (X : Cx) (E : XK) (tys : List Ky) : Tb → Prop
  | nil : ETab X E tys []
  | cons {cl : Str} {g : List D → W D} {tb : Tb} : EEnt X E tys cl g → ETab X E tys tb → ETab X E tys ((cl, g) :: tb)
theorem ETab.get {X : Cx} {E : XK} {tys : List Ky} {cl : Str} {g : List D → W D} : ∀ {tb : Tb}, ETab X E tys tb → tb.lookup cl = some g → EEnt X E tys cl g
  | _, .nil, h => by cases h
  | _, .cons (cl := d) a r, h => by
    rw [List.lookup_cons] at h
    cases q : (cl == d) with
    | true => rw [q] at h; cases h; rw [eq_of_beq q]; exact a
    | false => rw [q] at h; exact r.get h
def rOwn (K : PySem.W.Frag) (tb : Tb) (tys : List Ky) (E : XK) (neg : Bool) : R2 := fun x y H Q => ∃ a cl dx fs g t, x = .ref a ∧ H a = some (.ins (ga K cl) dx fs) ∧ tb.lookup cl = some g ∧ t ∈ tys ∧ TyX K H y (vTy K t) ∧
  Pr K 2 g [.ref a, y] H (fun v H' => ∃ b, v = .bl b ∧ Q (.bl (if neg then !b else b)) H') E
section
variable {X : Cx} {E : XK} {tb : Tb} {tys : List Ky}
theorem Room.in1' {k : Nat} {A : Around} (h : Room (k + 1) A) : Room k A.in1 := h.in1
theorem op_ownEq (T : ETab X E tys tb) : OpR X (compareOp .Eq) (rOwn X.K tb tys E false) := by
  intro pins s σ H x y u v Q I rx ry h
  obtain ⟨a, cl, dx, fs, g, t, rfl, ha, eg, ht, ty, q⟩ := h
  obtain rfl : u = Value.ref a := rx
  obtain ⟨CX, k, f, fd, ps, hC, h1, h2, h3, h4, h5, F, hr, hb, hx⟩ := (T.get eg).ex
  obtain ⟨P, Z, pz, nz⟩ := kit_of I ry ty
  obtain ⟨mA, J, _⟩ := ins_get I.hok ha
  obtain ⟨od, J, _⟩ := J.look
  obtain ⟨m, hF⟩ := I.fr
  show wpAny (model X.prog X.w) X.A (richCompare .Eq (.ref a) v) (EP X pins σ Q) X.xe s
  refine PySem.W.cmp_K (op := .Eq) (tb := vTy X.K t) hr.units0 hF I.ok.mod.kin J (Z.ty _ _ I.kIn pz) (h5 t ht) h1 h2 ?_
  have hl := F.len _ _ _ _ q
  have r2 : Vals [V.ref a, y] [Value.ref a, v] := .cons rfl (.cons ry .nil)
  have bd := hb s [.ref a, v] I.kIn (by simpa using hl)
  rw [List.append_nil] at bd
  refine wpAny_call (codeAny_mono (F.run X.A X.stack s H ⟨[.ref a, v], []⟩ [.ref a, v] [.ref a, y] _ E (hr.mono (Nat.le_succ _)) I.env0 bd r2 q) fun r s' hq => ?_)
  cases r with
  | error e => exact hx pins σ H s e s' I hq
  | ok fl =>
    cases fl with
    | ret w =>
      obtain ⟨z, H', I', rz, b, ez, q2⟩ := I.after hq
      subst ez
      cases rz
      exact ⟨.bl b, H', I', rfl, q2⟩
    | next => exact False.elim hq
    | brk => exact False.elim hq
    | cont => exact False.elim hq
theorem op_ownNe (T : ETab X E tys tb) : OpR X (compareOp .NotEq) (rOwn X.K tb tys E true) := by
  intro pins s σ H x y u v Q I rx ry h
  obtain ⟨a, cl, dx, fs, g, t, rfl, ha, eg, ht, ty, q⟩ := h
  obtain rfl : u = Value.ref a := rx
  obtain ⟨CX, k, f, fd, ps, hC, h1, h2, h3, h4, h5, F, hr, hb, hx⟩ := (T.get eg).ex
  obtain ⟨P, Z, pz, nz⟩ := kit_of I ry ty
  obtain ⟨mA, J, _⟩ := ins_get I.hok ha
  obtain ⟨od, J, _⟩ := J.look
  obtain ⟨m, hF⟩ := I.fr
  show wpAny (model X.prog X.w) X.A (richCompare .NotEq (.ref a) v) (EP X pins σ Q) X.xe s
  refine ne_own (tb := vTy X.K t) (by have := hr.units; omega) hF I.ok.mod.kin J (Z.ty _ _ I.kIn pz) (h5 t ht) h3 h1 h2 h4 ?_
  have hl := F.len _ _ _ _ q
  have r2 : Vals [V.ref a, y] [Value.ref a, v] := .cons rfl (.cons ry .nil)
  have bd := hb s [.ref a, v] I.kIn (by simpa using hl)
  rw [List.append_nil] at bd
  have e0 : Env0 X.prog X.w X.K X.mg X.base X.A.in1 X.stack s H := by
    have e := I.env0
    exact ⟨e.frames, e.mod, e.bs, e.bsz, e.funs, e.frf, e.hok, e.bare⟩
  refine wpAny_call (codeAny_mono (F.run X.A.in1 X.stack s H ⟨[.ref a, v], []⟩ [.ref a, v] [.ref a, y] _ E hr.in1 e0 bd r2 q) fun r s' hq => ?_)
  cases r with
  | error e => exact hx pins σ H s e s' I hq
  | ok fl =>
    cases fl with
    | ret w =>
      obtain ⟨z, H', I', rz, b, ez, q2⟩ := I.after hq
      subst ez
      cases rz
      exact ⟨b, rfl, .bl (!b), H', I', rfl, q2⟩
    | next => exact False.elim hq
    | brk => exact False.elim hq
    | cont => exact False.elim hq
end

/-! ### as data -/
@[reducible] def eqO (tb : Tb) (tys : List Ky) (neg : Bool) (x y : D) : W D := match x with
  | .obj cl _ => (match tb.lookup cl with
    | some g => (tyW y).bind fun t => W.need (t ∈ tys) (((g [x, y]).calm).bind fun v => (blD v).bind fun b => W.ret (.bl (if neg then !b else b)))
    | none => W.stuck)
  | _ => if neg then neD x y else eqD x y
def rEqO (K : PySem.W.Frag) (tb : Tb) (tys : List Ky) (neg : Bool) : R2 := fun x y H Q => (if neg then rNeU K x y H Q else rEqU K x y H Q) ∨ rOwn K tb tys E0 neg x y H Q
theorem op_eqO {X : Cx} {tb : Tb} {tys : List Ky} (hu : X.A.units + 64 < cLine) (T : ETab X E0 tys tb) : OpR X (compareOp .Eq) (rEqO X.K tb tys false) := (op_eqU hu).or (op_ownEq T)
theorem op_neO {X : Cx} {tb : Tb} {tys : List Ky} (hu : X.A.units + 64 < cLine) (T : ETab X E0 tys tb) : OpR X (compareOp .NotEq) (rEqO X.K tb tys true) := (op_neU hu).or (op_ownNe T)
/-- the type of a datum, seen -/
theorem ty_of {K : PySem.W.Frag} {c : Cg} {w : Wd} {s : S} {v : V} {y : D} {A : Type} {f : Ky → W A} {Q : A → Wd → S → Prop} {E : Xn → Wd → S → Prop} (o : Ok K c w s) (r : Rep K c w.al w.F v y) (h : Den K c ((tyW y).bind f) w s Q E) :
    ∃ t, ((∀ cl, t = .c cl → Lx.OwnC K cl) → TyX K w.H v (vTy K t)) ∧ Den K c (f t) w s Q E := by
  cases r with
  | non => exact ⟨.t "NoneType", fun _ => .base .non, h⟩
  | bl b => exact ⟨.t "bool", fun _ => .base (.bl b), h⟩
  | int i => exact ⟨.t "int", fun _ => .base (.int i), h⟩
  | str x => exact ⟨.t "str", fun _ => .base (.str x), h⟩
  | lst a r => exact ⟨.t "list", fun _ => .base (.lst (o.fro _ _ a)), h⟩
  | tup a r =>
    refine ⟨.t "tuple", fun _ => ?_, h⟩
    rcases (SqT.of (o.fro _ _ a) : SqT K _ _ _) with (z | ⟨ob, z⟩) | ⟨ob, its, n', z, zc, _⟩
    · exact .base (.tup z)
    · exact .fTuple z
    · exact .kTuple z zc
  | dct a r => exact ⟨.t "dict", fun _ => .base (.dK (o.fro _ _ a)), h⟩
  | @obj a dx cl fs gs hf _ _ _ => exact ⟨.c cl, fun k => (k _ rfl).ok _ _ _ _ (o.fro _ _ hf), h⟩
  | @mu i a hi =>
    obtain ⟨mo, em, q⟩ := h
    have rm := o.sto i a mo hi em
    cases mo with
    | lst xs => obtain ⟨_, vs, h1, _⟩ := rm; exact ⟨.t "list", fun _ => .base (.lst h1), q⟩
    | dct xs => obtain ⟨_, vs, h1, _⟩ := rm; exact ⟨.t "dict", fun _ => .base (.dK h1), q⟩
    | ins cl gs => obtain ⟨_, dx, vs, h1, _⟩ := rm; exact ⟨.c cl, fun k => (k _ rfl).ok _ _ _ _ h1, q⟩
    | gone => exact q.elim
  | pen => exact h.elim
  | err _ _ _ => exact h.elim
  | err0 _ => exact h.elim
  | sct _ => exact h.elim
theorem lo_eqO {K : PySem.W.Frag} {tb : Tb} {tys : List Ky} {neg : Bool} (hown : ∀ cl, Ky.c cl ∈ tys → Lx.OwnC K cl) : LO2 K (rEqO K tb tys neg) (eqO tb tys neg) := fun c w s v u x y Q E o rx ry h => by
  have gen : (Den K c (if neg then neD x y else eqD x y) w s (qV K c Q) E) → rEqO K tb tys neg v u w.H Q := fun h => by
    refine .inl ?_
    cases neg with
    | true => exact lo_ne c w s v u x y Q E o rx ry h
    | false => exact lo_eq c w s v u x y Q E o rx ry h
  have rx0 := rx
  cases rx with
  | @obj a dx cl fs gs hf hC hn rf =>
    refine .inr ?_
    have h : Den K c (match tb.lookup cl with
      | some g => (tyW y).bind fun t => W.need (t ∈ tys) (((g [.obj cl gs, y]).calm).bind fun v => (blD v).bind fun b => W.ret (D.bl (if neg then !b else b)))
      | none => W.stuck) w s (qV K c Q) E := h
    cases e : tb.lookup cl with
    | none => rw [e] at h; exact h.elim
    | some g =>
      rw [e] at h
      obtain ⟨t, ty, ht, h⟩ := ty_of o ry h
      refine ⟨a, cl, dx, fs, g, t, rfl, o.fro _ _ hf, e, ht, ty fun k e2 => hown k (e2 ▸ ht), c, w, s, [.obj cl gs, y], rfl, o, .cons rx0 (.cons ry .nil), rfl, (Den.bind h).calm.mono fun d w1 s1 g1 o1 q v1 r1 => ?_⟩
      cases r1 with
      | bl b => exact ⟨b, rfl, q.ret o1 _ (.bl _)⟩
      | _ => exact q.elim
  | non => exact gen h
  | bl b => exact gen h
  | int i => exact gen h
  | str z => exact gen h
  | lst a r => exact gen h
  | tup a r => exact gen h
  | dct a r => exact gen h
  | pen => exact gen h
  | sct a => exact gen h
  | mu a => exact gen h
  | err a k r => exact gen h
  | err0 a => exact gen h
/-- tables by promises -/
inductive TabE (P : Program) (w : World) (K : PySem.W.Frag) (mg : Str → Option Value) (base : Heap) (k : Nat) (tys : List Ky) : Tb → Prop
  | nil : TabE P w K mg base k tys []
  | cons {cl : Str} {g : List D → W D} {tb : Tb} {f : Addr} : Cls K (ga K cl) → PySem.W.findIn K (.ref (ga K cl)) "__eq__" = some (some (.ref f)) → PySem.W.isFn K (.ref f) = true → PySem.W.findIn K (.ref (ga K cl)) "__ne__" = some (some (.builtin "object.__ne__")) → PySem.W.subIn K (.ref (ga K cl)) (.type "object") = some true →
    (∀ t ∈ tys, PySem.W.notFirst K (ga K cl) (vTy K t) = true) → Fk P w K mg base k f (Pr K 2 g) → TabE P w K mg base k tys tb → TabE P w K mg base k tys ((cl, g) :: tb)
theorem TabE.et {X : Cx} {k : Nat} {tys : List Ky} {tb : Tb} (T : TabE X.prog X.w X.K X.mg X.base k tys tb) (hr : Room (k + 1) X.A) : ETab X E0 tys tb := by
  induction T with
  | nil => exact .nil
  | cons a b c d e f g _ ih =>
    obtain ⟨fd, ps, G, hb, hk⟩ := g.ex
    exact .cons ⟨_, _, _, _, _, a, b, c, d, e, f, G, hr, hb, px0⟩ ih
end Ly
set_option Elab.async false
set_option linter.all false
set_option maxRecDepth 100000
set_option maxHeartbeats 4000000
/-! Ly11: lists that grow, objects made by names, lambdas in defs. -/
namespace Ly
open PySem PySem.Spec L2 PyProof.Rows He
open Lx (Le)

/-! ### lists that grow -/
section
variable {K : PySem.W.Frag}
/-- x = [..], a thing that changes -/
@[reducible] def dNewL (f : List Sl → W (List D)) (i : Nat) : List Sl → W Out := fun δ => (f δ).bind fun xs => W.need (xs.length ≤ sizeLine) ((W.new (.lst xs)).bind fun j => W.ret (.nx (δ.set i (some (.mu j)))))
theorem ls_newL {t : XK → TA} {f : List Sl → W (List D)} {i : Nat} (ha : LA K t f) : LS K (fun E => tAsg (tLst (t E)) (gName i)) (dNewL f i) := fun c w s σ δ D E o sl q =>
  ha c w s σ δ _ E o sl (q.bind.mono fun xs w1 s1 g1 o1 p vs r1 => ⟨by rw [r1.len]; exact p.1, fun l hl => by
    obtain ⟨o2, g2⟩ := o1.add (p := l) (o := .lst vs) (mo := .lst xs) hl notOwn.1 notOwn.2 ⟨o1.free hl, vs, upd_same, r1.up ⟨⟨[l], rfl⟩, Le.refl _⟩⟩
    refine p.2 _ g2 o2 _ (((sl.go g1).go g2).set (.mu ?_))
    show (w1.al ++ [l])[s1.st.length]? = some l
    rw [← o1.len]; simp⟩)
/-- x.append(e) -/
@[reducible] def dApp (i : Nat) (f : List Sl → W D) : List Sl → W Out := fun δ => (dVar i δ).bind fun x => match x with
  | .mu j => (W.get j).bind fun o => (match o with
    | .lst _ => (f δ).bind fun y => (W.get j).bind fun o => (match o with
      | .lst xs => W.need (xs.length < sizeLine) ((W.put j (.lst (xs ++ [y]))).bind fun _ => W.ret (.nx δ))
      | _ => W.stuck)
    | _ => W.stuck)
  | _ => W.stuck
theorem ls_app {te : XK → TE} {f : List Sl → W D} {i : Nat} (he : LE K te f) : LS K (fun E => tDrop (tBM K "list" rAppend (tVar i) (tCons (te E) tNil))) (dApp i f) := fun c w s σ δ D E o sl q => by
  have q := q.bind
  unfold dVar at q
  cases e : δ[i]? with
  | none => rw [e] at q; exact (show False from q).elim
  | some x => cases x with
    | none => rw [e] at q; exact (show False from q).elim
    | some d =>
      rw [e] at q
      have q := Den.ret q o
      obtain ⟨v, hv, rv⟩ := sl.val i d e
      cases rv with
      | @mu j a hj =>
        obtain ⟨mo, em, q⟩ := q
        have rm := o.sto j a mo hj em
        cases mo with
        | lst xs0 =>
          obtain ⟨hF0, vs0, h0, _⟩ := rm
          refine ⟨.ref a, hv, .inl ⟨rfl, vs0, SqL.of h0⟩, he c w s σ δ _ E o sl ((Den.bind q).mono fun y w1 s1 g1 o1 p u ru => ?_)⟩
          obtain ⟨mo1, em1, p⟩ := p
          have hj1 := g1.sub.at hj
          have rm1 := o1.sto j a mo1 hj1 em1
          cases mo1 with
          | lst xs =>
            obtain ⟨hF, vs, h1, rl⟩ := rm1
            obtain ⟨p1, p2⟩ := p
            refine ⟨a, vs, u, rfl, rfl, h1, by rw [rl.len]; exact p1, ?_⟩
            obtain ⟨o2, g2⟩ := o1.ch (p := a) (o := .lst (vs ++ [u])) (mo := .lst (xs ++ [y])) hj1 hF notOwn.1 notOwn.2 ⟨hF, _, upd_same, rl.app (.cons ru .nil)⟩
            exact p2 _ g2 o2 σ ((sl.go g1).go g2)
          | _ => exact p.elim
        | _ => exact q.elim
      | _ => exact (show False from q).elim
/-- from here on the list in slot i changes no more -/
@[reducible] def iceD (i : Nat) : List Sl → W (List Sl) := fun δ => match δ[i]? with
  | some (some (.mu j)) => (W.get j).bind fun o => (match o with
    | .lst xs => (W.put j .gone).bind fun _ => W.ret (δ.set i (some (.lst xs)))
    | _ => W.stuck)
  | _ => W.ret δ
theorem ls_ice {ts : XK → TS} {g : List Sl → W Out} (i : Nat) (h : LS K ts g) : LS K ts (fun δ => (iceD i δ).bind g) := fun c w s σ δ D E o sl q => by
  have q := q.bind
  unfold iceD at q
  split at q
  · rename_i j e
    obtain ⟨mo, em, q⟩ := q
    obtain ⟨v, hv, rv⟩ := sl.val i _ e
    cases rv with
    | @mu _ a hj =>
      have rm := o.sto j a mo hj em
      cases mo with
      | lst xs =>
        obtain ⟨hF, vs, h1, rl⟩ := rm
        obtain ⟨o2, g2⟩ := o.ice hj hF h1
        have sl2 := (sl.go g2).set (i := i) (v := .ref a) (d := .lst xs) (.lst upd_same (rl.up g2.sub))
        have e1 : σ.set i (some (.ref a)) = σ := by
          apply List.ext_getElem?
          intro k
          by_cases hk : k = i
          · subst hk
            rw [List.getElem?_set_self (List.getElem?_eq_some_iff.mp hv).1, hv]
          · rw [List.getElem?_set_ne (Ne.symm hk)]
        rw [e1] at sl2
        exact h c ⟨w.al, upd w.F a (.lst vs), w.H⟩ ⟨s.n, s.st.set j .gone⟩ σ _ D E o2 sl2 (q ⟨w.al, upd w.F a (.lst vs), w.H⟩ g2 o2)
      | _ => exact q.elim
  · exact h c w s σ δ D E o sl (Den.ret q o)
end

/-! ### objects made by names -/
def pick {α : Type} (is : List Nat) (zs : List α) : List α := is.filterMap fun i => zs[i]?
theorem vals_pick : ∀ (is : List Nat) {zs : List V} {ws : List Value}, Vals zs ws → Vals (pick is zs) (pick is ws)
  | [], _, _, _ => .nil
  | i :: is, zs, ws, r => by
    unfold pick
    rw [List.filterMap_cons, List.filterMap_cons]
    cases e : zs[i]? with
    | none => rw [r.none_of e]; exact vals_pick is r
    | some z => obtain ⟨u, hu, ru⟩ := r.get e; rw [hu]; exact .cons ru (vals_pick is r)
theorem RepL.pick {K : PySem.W.Frag} {c : Cg} {al : List Addr} {F : Hp} : ∀ (is : List Nat) {vs : List V} {ds : List D}, RepL K c al F vs ds → RepL K c al F (pick is vs) (pick is ds)
  | [], _, _, _ => .nil
  | i :: is, vs, ds, r => by
    unfold Ly.pick
    rw [List.filterMap_cons, List.filterMap_cons]
    cases e : ds[i]? with
    | none =>
      have : vs[i]? = none := by
        rw [List.getElem?_eq_none_iff] at e ⊢
        rw [r.len]; exact e
      rw [this]; exact RepL.pick is r
    | some d => obtain ⟨v, hv, rv⟩ := r.get e; rw [hv]; exact .cons rv (RepL.pick is r)
structure FkK (P : Program) (w : World) (K : PySem.W.Frag) (mg : Str → Option Value) (base : Heap) (k : Nat) (f : Addr) (ks : List Str) (is : List Nat) (sp : Sp) : Prop where
  ex : ∃ (fd : FuncData) (ps : List Str), FnOk P w K mg base (L2.CX P w) k f fd ps sp ∧ KBn K fd ps 1 ks (fun us ws => us ++ pick is ws) (fun vs zs => vs ++ pick is zs)
theorem SupD.kb {P : Program} {K : PySem.W.Frag} {x qual : Str} {params : Arguments} {body : List Stmt} {scope : Scope} {DC f : Addr} {fd : FuncData} {ps ks : List Str} {is : List Nat} (F : Lx.SupD P K x qual params body scope DC f fd)
    (h : ∀ (kV doc pm : Value) (an : Option Addr) (cdv ct : Value) (cc : Addr) (u : Value) (ws : List Value), ws.length = ks.length → bindArgs (PySem.W.ksFn x qual params body scope .none kV doc pm an cdv ct cc) ⟨[u], ks.zip ws⟩ = pure (ps.zip (u :: pick is ws))) :
    KBn K fd ps 1 ks (fun us ws => us ++ pick is ws) (fun vs zs => vs ++ pick is zs) := by
  obtain ⟨oc, od, kV, doc, pm, an, cda, ct, osl, cc, rfl, _⟩ := F.ex
  refine ⟨fun s us ws _ l1 l2 => ?_, fun r1 r2 => r1.append (vals_pick is r2)⟩
  match us, l1 with
  | [u], _ => exact .of_eq (h kV doc pm an _ ct cc u ws l2)
theorem FunD.kb {K : PySem.W.Frag} {x qual : Str} {params : Arguments} {body : List Stmt} {scope : Scope} {kws : List (Str × V)} {f : Addr} {fd : FuncData} {ps ks : List Str} {is : List Nat} (F : FunD K x qual params body scope [] kws f fd)
    (h : ∀ (kV doc pm : Value) (an : Option Addr) (cdv ct : Value) (u : Value) (ws : List Value), ws.length = ks.length → bindArgs (PySem.W.fnOf x qual params body scope .none kV doc pm an cdv ct) ⟨[u], ks.zip ws⟩ = pure (ps.zip (u :: pick is ws))) :
    KBn K fd ps 1 ks (fun us ws => us ++ pick is ws) (fun vs zs => vs ++ pick is zs) := by
  obtain ⟨oc, od, dV, kV, doc, pm, an, cdv, ct, osl, rfl, lk, hcd, hD, hK⟩ := F.ex
  rcases hD with ⟨_, rfl⟩ | ⟨e, _⟩
  · refine ⟨fun s us ws _ l1 l2 => ?_, fun r1 r2 => r1.append (vals_pick is r2)⟩
    match us, l1 with
    | [u], _ => exact .of_eq (h kV doc pm an cdv ct u ws l2)
  · exact absurd rfl e
section
variable {X : Cx} {E : XK} {k : Nat} {f C : Addr} {sp : Sp} {x : Str} {p pos : Pos} {e : Expr} {es : List Expr} {t : TA}
theorem pe_mk (M : Mk X.K C f) (F : Fk X.prog X.w X.K X.mg X.base k f sp) (hr : Room (k + 1) X.A) (hx : Passes (L2.CX X.prog X.w) X E) (hg : Gl X x) (hm : X.mg x = some (.ref C)) (ha : PA X (e :: es) t)
    (hdb : (x == ("__debug__" : Str)) = false := by decide) (he : starEach (e :: es) X.env = (false, eval e X.env) :: starEach es X.env := by rfl) (hpl : (backTo pos (starEach es X.env)).any (·.1) = false := by rfl) :
    PE X (.Call (.Name x p) (e :: es) [] pos) (tMake C sp [] E t) := by
  obtain ⟨fd, ps, G, hb, hk⟩ := F.ex
  exact pe_make M G hr hg hm hb .nil hx ha hdb he hpl
theorem pe_mk0 (M : Mk X.K C f) (F : Fk X.prog X.w X.K X.mg X.base k f sp) (hr : Room (k + 1) X.A) (hx : Passes (L2.CX X.prog X.w) X E) (hg : Gl X x) (hm : X.mg x = some (.ref C))
    (hdb : (x == ("__debug__" : Str)) = false := by decide) : PE X (.Call (.Name x p) [] [] pos) (tMake C sp [] E tNil) := by
  obtain ⟨fd, ps, G, hb, hk⟩ := F.ex
  exact pe_make0 M G hr hg hm hb .nil hx hdb
theorem pe_mkK {ks : List Str} {is : List Nat} {kws : List Keyword} (M : Mk X.K C f) (F : FkK X.prog X.w X.K X.mg X.base k f ks is sp) (hr : Room (k + 1) X.A) (hx : Passes (L2.CX X.prog X.w) X E) (hg : Gl X x) (hm : X.mg x = some (.ref C)) (hkw : PK X kws t)
    (hall : (backToKw pos (keywordEach kws X.env)).all (·.1.isSome) = true := by rfl) (hks : (backToKw pos (keywordEach kws X.env)).filterMap (·.1) = ks := by rfl) (hdb : (x == ("__debug__" : Str)) = false := by decide)
    (hpl : ((backTo pos (starEach [] X.env)).any (·.1) || (backToKw pos (keywordEach kws X.env)).any (·.1.isNone)) = false := by rfl) :
    PE X (.Call (.Name x p) [] kws pos) (tMakeK C 0 ks.length sp (fun vs zs => vs ++ pick is zs) E tNil t) := by
  obtain ⟨fd, ps, G, hb⟩ := F.ex
  exact pe_makeK0 M G hr hg hm hb hx hkw hall hks hdb hpl
end
@[reducible] def dMakeK (cl : Str) (n : Nat) (is : List Nat) (m : Nat) (g : List D → W D) (f : List Sl → W (List D)) : List Sl → W D := fun δ => (f δ).bind fun zs => W.need (zs.length = n ∧ (pick is zs).length = m) (mkObj cl g (pick is zs))
theorem le_makeK {K : PySem.W.Frag} {cl : Str} {m n : Nat} {is : List Nat} {g : List D → W D} {t : XK → TA} {f : List Sl → W (List D)} (hC : Cls K (ga K cl)) (ha : LA K t f) : LE K (fun E => tMakeK (ga K cl) 0 n (Pr K (m + 1) g) (fun vs zs => vs ++ pick is zs) E tNil (t E)) (dMakeK cl n is m g f) := fun c w s σ δ Q E o sl h =>
  ha c w s σ δ _ E o sl (h.bind.mono fun zs w1 s1 g1 o1 p vs r1 => ⟨rfl, by rw [r1.len]; exact p.1.1, fun x dx hx hdx hne => by
    obtain ⟨⟨_, p1⟩, p2⟩ := p
    obtain ⟨w2, e2, o2, g2, a2⟩ := made o1 hC hx hdx hne
    have p3 : (((g (.mu s1.st.length :: pick is zs)).bind fun v => W.need (v = .non) ((W.get s1.st.length).bind fun o => match o with
      | .ins cl' gs => (W.put s1.st.length .gone).bind fun _ => W.ret (D.obj cl' gs)
      | _ => W.stuck))).wp ⟨s1.n, s1.st ++ [.ins cl []]⟩ _ _ := p2
    have p4 := (Den.on (s0 := s1) p3 g2).bind
    refine ⟨c, w2, ⟨s1.n, s1.st ++ [.ins cl []]⟩, .mu s1.st.length :: pick is zs, e2, o2, .cons (.mu a2) (RepL.pick is (r1.up g2.sub)), by rw [List.length_cons, p1], p4.mono fun d w3 s3 g3 o3 q v rv => ?_⟩
    obtain ⟨q0, q⟩ := q
    subst q0
    cases rv
    refine ⟨rfl, ?_⟩
    have a3 := g3.sub.at a2
    obtain ⟨mo, em, q⟩ := q
    have rm := o3.sto _ _ _ a3 em
    cases mo with
    | ins cl' gs =>
      obtain ⟨hF, dx', vs', h1, h2, h3, h4, h5⟩ := rm
      obtain ⟨o4, g4⟩ := o3.ice a3 hF h1
      exact q _ g4 o4 (.ref x) (.obj upd_same h2 h3 (h4.up g4.sub))
    | _ => exact q.elim⟩)

/-! ### lambdas in defs: the def's code is known -/
def coA (K : PySem.W.Frag) (f : Addr) : Addr := match K.lookup f with
  | some ⟨_, _, .func fd, _⟩ => (match fd.code with | .ref c => c | _ => 0)
  | _ => 0
def tbA (K : PySem.W.Frag) (f : Addr) : Addr := match K.lookup (coA K f) with
  | some ⟨_, _, .fields vs, _⟩ => (match (vs[11]? : Option Value) with | some (.ref P) => P | _ => 0)
  | _ => 0
theorem FunD.code {K : PySem.W.Frag} {x qual : Str} {params : Arguments} {body : List Stmt} {scope : Scope} {dvs : List V} {kws : List (Str × V)} {f : Addr} {fd : FuncData} (F : FunD K x qual params body scope dvs kws f fd) : fd.code = .ref (coA K f) := by
  obtain ⟨oc, od, dV, kV, doc, pm, an, cdv, ct, osl, rfl, lk, hcd, _, _⟩ := F.ex
  cases cdv with
  | ref c =>
    unfold coA
    rw [lk]
  | _ => cases hcd
section
variable {P : Program} {w : World} {K : PySem.W.Frag} {mg : Str → Option Value} {base : Heap} {x qual : Str} {params : Arguments} {body : List Stmt} {scope : Scope} {dvs : List V} {kws : List (Str × V)} {f : Addr} {fd : FuncData}
/-- as Lx.fnG_of, the code object told -/
theorem fnG_ofC {CX : CXT} {N ps : List Str} {k : Nat} {sp : Sp} (F : FunD K x qual params body scope dvs kws f fd) (S : FnScope N ps scope) (len : ∀ vs H Q E, sp vs H Q E → vs.length = ps.length)
    (hb : ∀ (cdv : Value) (A : Around) (outer : List Env) (s : Shared) (H : Hp) (vs : List V) (Q : VK) (E : XK), cdv = .ref (coA K f) → (A.deeper (envOfC qual scope s.heap.objs.size f cdv)).guards = some [] → Room k (A.deeper (envOfC qual scope s.heap.objs.size f cdv)) → sp vs H Q E →
      ∃ t, PSs (cxOf CX P w K mg base N qual scope f cdv A outer s H E) body t ∧ t { nx := fun _ H' => Q .non H', rt := Q } (L2.start N vs) H) : Lx.FnG P w K mg base CX (k + 1) f fd ps sp := by
  refine ⟨len, fun A outer s H args us vs Q E hg hr he hbd hv hs => ?_⟩
  have hco := FunD.code F
  obtain ⟨oc, od, dV, kV, doc, pm, an, cdv, ct, osl, rfl, lk, hcd, _, _⟩ := F.ex
  have hl := len _ _ _ _ hs
  have st : ∀ b o, base.get? b = some o → s.heap.get? b = some o := fun b o e => (he.bs b o e).1
  have KX : K.In s.heap := he.mod.kin.keeps st
  have kinds : ∀ y ∈ ps.zip us, scope.names.lookup y.1 = some .local ∨ (scope.names.lookup y.1 = some .cell ∧ ((cellsFrom (s.heap.objs.size + 1) scope.names []).lookup y.1).isSome = true) := fun y hy => by
    have hm := (List.of_mem_zip (a := y.1) (b := y.2) hy).1
    exact (S.par y.1 hm).imp id fun q => ⟨q, PySem.W.cellsFrom_some _ _ _ (.inl q)⟩
  refine codeAny_call_function hr.depth (KX _ _ lk) rfl S.co S.gen rfl (PySem.W.codeRec_of KX hcd) (hbd _ _ _ _ (wpAny_newFunctionEnv_cells S.kind kinds fun env ee s1 ic => ?_))
  subst ee
  refine ⟨(he.mod.nolimit.keeps st).keeps ic.toInCall.keep, codeAny_func ?_⟩
  obtain ⟨t, ht, hq⟩ := hb cdv A outer s H vs Q E hco hg (hr.deeper _) hs
  have I := inv_start (CX := CX) (E := E) S hr.hd he hl hv ic
  refine wpAny_mono (ht.run [] s1 (L2.start N vs) H _ I hq) (fun fl s2 h2 => ?_) fun _ _ z => z
  cases fl with
  | ret u => obtain ⟨v, σ2, H2, J, rv, q⟩ := h2; exact ⟨v, H2, J.os, J.bare, J.base, J.hok, rv, q⟩
  | next => obtain ⟨σ2, H2, J, q⟩ := h2; exact ⟨.non, H2, J.os, J.bare, J.base, J.hok, rfl, q⟩
  | brk => obtain ⟨_, _, _, q⟩ := h2; exact False.elim q
  | cont => obtain ⟨_, _, _, q⟩ := h2; exact False.elim q
theorem fnG_lyC {N ps : List Str} {k : Nat} {t : XK → TS} {b : List Sl → W Out} (F : FunD K x qual params body scope dvs kws f fd) (S : FnScope N ps scope) (hl : LS K t b)
    (hb : ∀ (cdv : Value) (A : Around) (outer : List Env) (s : Shared) (H : Hp) (E : XK), cdv = .ref (coA K f) → (A.deeper (envOfC qual scope s.heap.objs.size f cdv)).guards = some [] → Room k (A.deeper (envOfC qual scope s.heap.objs.size f cdv)) → Tk (cxOf (L2.CX P w) P w K mg base N qual scope f cdv A outer s H E) E → PSs (cxOf (L2.CX P w) P w K mg base N qual scope f cdv A outer s H E) body (t E)) :
    Lx.FnG P w K mg base (L2.CX P w) (k + 1) f fd ps (Pr K ps.length (dBody N b)) :=
  fnG_ofC F S Pr.len fun cdv A outer s H vs Q E hc hg hr h => ⟨t E, hb cdv A outer s H E hc hg hr tk_of, body_ly hl h⟩
end
theorem tk_lam {X : Cx} {A : Around} {outer : List Env} {s : Shared} {H : Hp} {E : XK} {scope : Scope} {f c' : Addr} : Tk (LamX.lamCx X A outer s H E scope f c') E := takes_of rfl rfl rfl rfl
end Ly
set_option Elab.async false
set_option linter.all false
set_option maxRecDepth 100000
set_option maxHeartbeats 4000000
/-! Ly12: the head's Hook with facts of errors, of ==, of lambdas; the law's def; the end. -/
namespace Ly
open PySem PySem.Spec L2 PyProof.Rows He
open Lx (Le Ky vTy Fm DefM FnM fnM eqB)

/-! ### facts -/
def oexB (K : PySem.W.Frag) (C : Addr) : Bool := match K.lookup C with
  | some ⟨.type t, _, .cls cd, sl⟩ => (match cd.mro, sl.toList with
    | .ref C' :: bm, [_, _, _, _, some (.builtin n), _] => decide (t = "type") && (decide (C' = C) && (decide (n = "ValueError.__new__") && (!cd.hasDel && (cd.hasDict && PySem.HandSPX.refsVE bm))))
    | _, _ => false)
  | _ => false
theorem oexB_ok {K : PySem.W.Frag} {C : Addr} (h : oexB K C = true) : ∃ nm q N bs bm sn sub ab col dd k0 k1 k2 k3 k5, K.lookup C = some (excClassObj nm q C N bs bm true sn sub ab col dd k0 k1 k2 k3 k5 "ValueError.__new__") ∧ PySem.HandSPX.refsVE bm = true := by
  unfold oexB at h
  split at h
  · rename_i t dd cd sl e
    split at h
    · rename_i C' bm k0 k1 k2 k3 n k5 hm hs
      obtain ⟨h1, h⟩ := ba h
      obtain ⟨h2, h⟩ := ba h
      obtain ⟨h3, h⟩ := ba h
      obtain ⟨h4, h⟩ := ba h
      obtain ⟨h5, h6⟩ := ba h
      have e1 := of_decide_eq_true h1
      have e2 := of_decide_eq_true h2
      have e3 := of_decide_eq_true h3
      have e4 : cd.hasDel = false := by simpa using h4
      subst e1 e2 e3
      obtain ⟨nm, bs, mro, ns, qn, hd, sn, sub, ab, col, del⟩ := cd
      dsimp only at hm h5 e4
      subst hm h5 e4
      have esl : sl = #[k0, k1, k2, k3, some (.builtin "ValueError.__new__"), k5] := by
        have : sl.toList = (#[k0, k1, k2, k3, some (.builtin "ValueError.__new__"), k5] : Array (Option Value)).toList := hs
        exact Array.toList_inj.mp this
      subst esl
      exact ⟨nm, qn, ns, bs, bm, sn, sub, ab, col, dd, k0, k1, k2, k3, k5, e, h6⟩
    · cases h
  · cases h
inductive Fy where
  | m (f : Fm)
  | nf (cs : List Str) (ts : List Ky)
  | eq (x y : Str)
  | exc (x fld : Str)
  | cat (x fld : Str)
  | lam (x q : Str)
  | ob (x : Str) (B newId initId : String) (tl : List String)
  | xfl (x fld : Str)
  | xis (x : Str)
  | xki (x : Str) (t : Ky) (b : Bool)
  | ex0 (x : Str) (newId : String) (tl : List String)
def obB (K : PySem.W.Frag) (C : Addr) (newId : String) (tl : List String) : Bool := match K.lookup C with
  | some ⟨.type t, _, .cls cd, sl⟩ => (match cd.mro, sl.toList with
    | .ref C' :: bm, [_, _, _, _, some (.builtin n), _] => decide (t = "type") && (decide (C' = C) && (decide (n = newId) && (!cd.hasDel && (cd.hasDict && (bm == tl.map Value.type)))))
    | _, _ => false)
  | _ => false
def eqD' (a b : Option (Option Value)) : Bool := He.eqO a b
def Fy.ok (K : PySem.W.Frag) : Fy → Bool
  | .m f => f.ok K
  | .nf cs ts => cs.all fun x => ts.all fun t => PySem.W.notFirst K (ga K x) (vTy K t)
  | .eq x y => He.eqO (PySem.W.findIn K (.ref (ga K x)) "__eq__") (some (some (.ref (ma K (ga K y) "__eq__")))) && (PySem.W.isFn K (.ref (ma K (ga K y) "__eq__")) && (He.eqO (PySem.W.findIn K (.ref (ga K x)) "__ne__") (some (some (.builtin "object.__ne__"))) && eqB (PySem.W.subIn K (.ref (ga K x)) (.type "object")) (some true)))
  | .exc x fld => oexB K (ga K x) && (He.eqO (PySem.W.findIn K (.ref (ga K x)) "__setattr__") (some (some (.builtin "object.__setattr__"))) && (eqB (PySem.W.subIn K (.ref (ga K x)) (.type "BaseException")) (some true) && (decide (PySem.W.typeIn K (.ref (ga K x)) = some (.type "type")) && (PySem.W.keepIn K (.ref (ga K x)) &&
      (He.eqO (PySem.W.ks_superIn K (ga K x) (ga K x) "__init__") (some (some (.builtin "ValueError.__init__"))) && (eqB (PySem.W.mroIn K (ga K x) (.ref (ga K x))) (some true) && (eqB (PySem.W.subIn K (.ref (ga K x)) (.type "ValueError")) (some true) && (He.eqO (PySem.W.findIn K (.ref (ga K x)) fld) (some none) &&
      (He.eqO (PySem.W.findIn K (.ref (ga K x)) "__init__") (some (some (.ref (ma K (ga K x) "__init__")))) && decide (PySem.W.typeIn K (.ref (ma K (ga K x) "__init__")) = some (.type "function")))))))))))
  | .cat x fld => eqB (PySem.W.exmOne K (.ref (ga K x)) (.ref (ga K x))) (some true) && (xfB K (ga K x) && (He.eqO (PySem.W.findIn K (.ref (ga K x)) fld) (some none) && (He.eqO (PySem.W.findIn K (.ref (ga K x)) "__class__") (some (some (.builtin "object.__class__"))) &&
      (He.eqO (PySem.W.specialIn K (.builtin "object.__class__") "__get__") (some (some (.builtin "getset_descriptor.__get__"))) && (eqB (PySem.W.takesIn K (.builtin "object.__class__")) (some true) && (eqB (PySem.W.mroIn K (ga K x) (.type "object")) (some true) && eqB (PySem.W.kitOne K (.ref (ga K x)) (.type "ValueError")) (some true)))))))
  | .ob x B newId initId tl => obB K (ga K x) newId tl && (He.eqO (PySem.W.findIn K (.ref (ga K x)) "__setattr__") (some (some (.builtin "object.__setattr__"))) && (eqB (PySem.W.subIn K (.ref (ga K x)) (.type "BaseException")) (some true) && (decide (PySem.W.typeIn K (.ref (ga K x)) = some (.type "type")) && (PySem.W.keepIn K (.ref (ga K x)) &&
      (He.eqO (PySem.W.ks_superIn K (ga K x) (ga K x) "__init__") (some (some (.builtin initId))) && (eqB (PySem.W.mroIn K (ga K x) (.ref (ga K x))) (some true) && (eqB (PySem.W.subIn K (.ref (ga K x)) (.type B)) (some true) &&
      (He.eqO (PySem.W.findIn K (.ref (ga K x)) "__init__") (some (some (.ref (ma K (ga K x) "__init__")))) && decide (PySem.W.typeIn K (.ref (ma K (ga K x) "__init__")) = some (.type "function"))))))))))
  | .xfl x fld => xfB K (ga K x) && He.eqO (PySem.W.findIn K (.ref (ga K x)) fld) (some none)
  | .xis x => xfB K (ga K x) && (He.eqO (PySem.W.findIn K (.ref (ga K x)) "__class__") (some (some (.builtin "object.__class__"))) && (He.eqO (PySem.W.specialIn K (.builtin "object.__class__") "__get__") (some (some (.builtin "getset_descriptor.__get__"))) && (eqB (PySem.W.takesIn K (.builtin "object.__class__")) (some true) && eqB (PySem.W.mroIn K (ga K x) (.type "object")) (some true))))
  | .xki x t b => eqB (PySem.W.kitOne K (.ref (ga K x)) (vTy K t)) (some b)
  | .ex0 x newId tl => PySem.W.excIn K (ga K x) (tl.map Value.type) newId && PySem.W.keepIn K (.ref (ga K x))
  | .lam x q => decide ((coA K (ga K x), tbA K (ga K x), q) ∈ tabs3 K) && (tabsOf K).all fun p => !decide (p.1 = tbA K (ga K x)) || decide (p.2 = q)
section
variable {K : PySem.W.Frag}
theorem fy_nf {cs : List Str} {ts : List Ky} (h : (Fy.nf cs ts).ok K = true) {x : Str} (hx : x ∈ cs) : ∀ t ∈ ts, PySem.W.notFirst K (ga K x) (vTy K t) = true := fun t ht => List.all_eq_true.mp (List.all_eq_true.mp h x hx) t ht
theorem fy_eq {x y : Str} (h : (Fy.eq x y).ok K = true) : PySem.W.findIn K (.ref (ga K x)) "__eq__" = some (some (.ref (ma K (ga K y) "__eq__"))) ∧ PySem.W.isFn K (.ref (ma K (ga K y) "__eq__")) = true ∧ PySem.W.findIn K (.ref (ga K x)) "__ne__" = some (some (.builtin "object.__ne__")) ∧ PySem.W.subIn K (.ref (ga K x)) (.type "object") = some true := by
  obtain ⟨h1, h⟩ := ba h
  obtain ⟨h2, h⟩ := ba h
  obtain ⟨h3, h4⟩ := ba h
  exact ⟨eqO_ok h1, h2, eqO_ok h3, of_decide_eq_true h4⟩
theorem fy_exc {x fld : Str} (h : (Fy.exc x fld).ok K = true) : XC K (ga K x) fld ∧ PySem.W.findIn K (.ref (ga K x)) "__init__" = some (some (.ref (ma K (ga K x) "__init__"))) ∧ PySem.W.typeIn K (.ref (ma K (ga K x) "__init__")) = some (.type "function") := by
  obtain ⟨h1, h⟩ := ba h
  obtain ⟨h2, h⟩ := ba h
  obtain ⟨h3, h⟩ := ba h
  obtain ⟨h4, h⟩ := ba h
  obtain ⟨h5, h⟩ := ba h
  obtain ⟨h6, h⟩ := ba h
  obtain ⟨h7, h⟩ := ba h
  obtain ⟨h8, h⟩ := ba h
  obtain ⟨h9, h⟩ := ba h
  obtain ⟨h10, h11⟩ := ba h
  exact ⟨⟨⟨oexB_ok h1, eqO_ok h2, of_decide_eq_true h3, of_decide_eq_true h4, h5⟩, eqO_ok h6, of_decide_eq_true h7, of_decide_eq_true h8, eqO_ok h9⟩, eqO_ok h10, of_decide_eq_true h11⟩
theorem fy_cat {x fld : Str} (h : (Fy.cat x fld).ok K = true) : CatC K (ga K x) fld := by
  obtain ⟨h1, h⟩ := ba h
  obtain ⟨h2, h⟩ := ba h
  obtain ⟨h3, h⟩ := ba h
  obtain ⟨h4, h⟩ := ba h
  obtain ⟨h5, h⟩ := ba h
  obtain ⟨h6, h⟩ := ba h
  obtain ⟨h7, h8⟩ := ba h
  have xf := xfB_ok h2
  exact ⟨of_decide_eq_true h1, xf, eqO_ok h3, ⟨xf.ga, xf.gg, xf.exC, xf.hdC, eqO_ok h4, eqO_ok h5, of_decide_eq_true h6, of_decide_eq_true h7⟩, of_decide_eq_true h8⟩
theorem fy_lam {x q : Str} (h : (Fy.lam x q).ok K = true) : (coA K (ga K x), tbA K (ga K x), q) ∈ tabs3 K ∧ ∀ p ∈ tabsOf K, p.1 = tbA K (ga K x) → p.2 = q := by
  obtain ⟨h1, h2⟩ := ba h
  refine ⟨of_decide_eq_true h1, fun p hp e => ?_⟩
  have := List.all_eq_true.mp h2 p hp
  rw [e] at this
  simpa using this
end

/-! ### tables -/
def isTb : Option Obj → Bool
  | some ⟨.none, none, .fields vs, sl⟩ => vs.isEmpty && sl.isEmpty
  | _ => false
theorem isTb_ok {o : Option Obj} (h : isTb o = true) : o = some { cls := .none, data := .fields #[] } := by
  unfold isTb at h
  split at h
  · rename_i vs sl
    obtain ⟨h1, h2⟩ := ba h
    have e1 : vs = #[] := by simpa using h1
    have e2 : sl = #[] := by simpa using h2
    subst e1 e2
    rfl
  · cases h
def codeB (K : PySem.W.Frag) (c P : Addr) : Bool := match K.lookup c with
  | some ⟨.type t, _, .fields vs, _⟩ => decide (t = "code") && ((match (vs[11]? : Option Value) with | some (.ref Q) => decide (Q = P) | _ => false) && ((match vs.getD 18 .none with | .str _ _ => true | _ => false) && ((match vs.getD 7 .none with | .int _ _ => true | _ => false) &&
      ((match vs.getD 9 .none with | .bool _ => true | _ => false) && ((match vs.getD 10 .none with | .int _ _ => true | _ => false) && !decide (c = P))))))
  | _ => false
theorem codeB_ok {K : PySem.W.Frag} {h : Heap} {c P : Addr} (X : K.In h) (b : codeB K c P = true) : PySem.W.CodeHd h c P := by
  unfold codeB at b
  split at b
  · rename_i t dd vs sl e
    obtain ⟨h1, b⟩ := ba b
    obtain ⟨h2, b⟩ := ba b
    obtain ⟨h3, b⟩ := ba b
    obtain ⟨h4, b⟩ := ba b
    obtain ⟨h5, b⟩ := ba b
    obtain ⟨h6, h7⟩ := ba b
    have e1 := of_decide_eq_true h1
    subst e1
    have e11 : vs[11]? = some (.ref P) := by
      split at h2
      · rename_i Q e2
        rw [e2, of_decide_eq_true h2]
      · cases h2
    have g11 : vs.getD 11 .none = .ref P := by
      rw [Array.getD_eq_getD_getElem?, e11]; rfl
    split at h3
    · rename_i f tf ef
      split at h4
      · rename_i fl tg efl
        split at h5
        · rename_i inF ein
          split at h6
          · rename_i tx tt etx
            exact ⟨_, vs, f, tf, fl, tg, inF, tx, tt, X _ _ e, rfl, rfl, e11, g11, ef, efl, ein, etx, by simpa using h7⟩
          · cases h6
        · cases h5
      · cases h4
    · cases h3
  · cases b
/-! ### the Hook -/
def smB : Option Obj → Bool
  | some o => decide (o.cls = .type "dict")
  | none => false
theorem smB_ok {o : Option Obj} (h : smB o = true) : ∃ u, o = some u ∧ u.cls = .type "dict" := by
  cases o with
  | none => cases h
  | some u => exact ⟨u, rfl, of_decide_eq_true h⟩
def asY (g : Addr → Option Obj) (n : Nat) : List Addr := (Lx.asM g n).filter fun a => !isTb (g a)
theorem look_mem {α : Type} {a : Addr} {o : α} : ∀ {l : List (Addr × α)}, l.lookup a = some o → (a, o) ∈ l
  | [], h => by cases h
  | (b, u) :: r, h => by
    rw [List.lookup_cons] at h
    cases q : (a == b) with
    | true => rw [q] at h; cases h; rw [eq_of_beq q]; exact List.mem_cons_self
    | false => rw [q] at h; exact List.mem_cons_of_mem _ (look_mem h)
theorem frG_mem {g : Addr → Option Obj} {as : List Addr} {a : Addr} {o : Obj} (h : (frG g as).lookup a = some o) : a ∈ as := by
  have hm := look_mem h
  unfold frG at hm
  obtain ⟨b, hb, e⟩ := List.mem_filterMap.mp hm
  cases q : g b with
  | none => rw [q] at e; cases e
  | some u => rw [q] at e; cases e; exact hb
abbrev AlY : Type := Bool × List FnM
def obsY (file : Str) (fa : List Fy) (fn : List DefM) (g : Addr → Option Obj) (K : PySem.W.Frag) : AlY := ((fa.all fun f => f.ok K) && ((fn.all fun d => d.ok K file) && (smB (g sysModules) && (tabs3 K).all fun t => isTb (g t.2.1) && codeB K t.1 t.2.1)), fn.map fun d => fnM K (d.at_.a K))
def valY (fn : List DefM) : AlY := (true, fn.map DefM.val)
structure SaysY (file : Str) (fa : List Fy) (fn : List DefM) (K : PySem.W.Frag) : Prop where
  fa : (fa.all fun f => f.ok K) = true
  ok : (fn.all fun d => d.ok K file) = true
  fn : (fn.map fun d => fnM K (d.at_.a K)) = fn.map DefM.val
/-- the module table is a dict -/
def SmY (h : Heap) : Prop := ∃ o, h.get? sysModules = some o ∧ o.cls = .type "dict"
def TabsY (K : PySem.W.Frag) (h : Heap) : Prop := ∀ t ∈ tabs3 K, h.get? t.2.1 = some { cls := .none, data := .fields #[] } ∧ PySem.W.CodeHd h t.1 t.2.1 ∧ K.lookup t.2.1 = none
def obsYG (n : Nat) (file : Str) (fa : List Fy) (fn : List DefM) (g : Addr → Option Obj) : AlY := obsY file fa fn g (frG g (asY g n))
def hookY (n : Nat) (file : Str) (fa : List Fy) (fn : List DefM) : PySem.W.Hook where
  α := AlY
  obs := fun s => obsYG n file fa fn s.heap.get?
  val := fun _ => valY fn
  says := fun _ h => ∃ K : PySem.W.Frag, K.In h ∧ SaysY file fa fn K ∧ TabsY K h ∧ SmY h
  of := fun _ s e => by
    refine ⟨frG s.heap.get? (asY s.heap.get? n), frG_in, ?_, ?_, ?_⟩
    · have c := congrArg (fun z : AlY => z.1) e
      obtain ⟨c1, c2⟩ := ba (show ((fa.all fun f => f.ok (frG s.heap.get? (asY s.heap.get? n))) && _) = true from c)
      obtain ⟨c3, _⟩ := ba c2
      exact ⟨c1, c3, congrArg (fun z : AlY => z.2) e⟩
    · have c := congrArg (fun z : AlY => z.1) e
      obtain ⟨c1, c2⟩ := ba (show ((fa.all fun f => f.ok (frG s.heap.get? (asY s.heap.get? n))) && _) = true from c)
      obtain ⟨_, c4⟩ := ba c2
      obtain ⟨_, c4⟩ := ba c4
      intro t ht
      obtain ⟨d1, d2⟩ := ba (List.all_eq_true.mp c4 t ht)
      refine ⟨isTb_ok d1, codeB_ok frG_in d2, ?_⟩
      cases q : (frG s.heap.get? (asY s.heap.get? n)).lookup t.2.1 with
      | none => rfl
      | some o =>
        have hm := (List.mem_filter.mp (frG_mem q)).2
        rw [d1] at hm
        cases hm
    · have c := congrArg (fun z : AlY => z.1) e
      obtain ⟨c1, c2⟩ := ba (show ((fa.all fun f => f.ok (frG s.heap.get? (asY s.heap.get? n))) && _) = true from c)
      obtain ⟨_, c4⟩ := ba c2
      obtain ⟨c5, _⟩ := ba c4
      exact smB_ok c5
  keeps := fun _ _ _ ⟨K, hK, c, t, o, e1, e2⟩ k => ⟨K, PySem.W.Frag.In.keeps hK k, c, fun p hp => ⟨k _ _ (t p hp).1, (t p hp).2.1.keeps k, (t p hp).2.2⟩, o, k _ _ e1, e2⟩
theorem obsYG_eq {n : Nat} {file : Str} {fa : List Fy} {fn : List DefM} {g : Addr → Option Obj} {s : Shared} (h : ∀ a, g a = s.heap.get? a) : obsYG n file fa fn g = (hookY n file fa fn).obs s := by
  have e : g = s.heap.get? := funext h
  rw [e] <;> rfl
section
variable {file : Str} {fa : List Fy} {fn : List DefM} {K : PySem.W.Frag}
theorem SaysY.fact (c : SaysY file fa fn K) {f : Fy} (i : Nat) (h : fa[i]? = some f) : f.ok K = true := List.all_eq_true.mp c.fa f (List.mem_of_getElem? h)
theorem SaysY.fm (c : SaysY file fa fn K) {f : Fm} (i : Nat) (h : fa[i]? = some (.m f)) : f.ok K = true := c.fact i h
theorem SaysY.def_ (c : SaysY file fa fn K) (i : Nat) {d : DefM} (h : fn[i]? = some d) : fnM K (d.at_.a K) = d.val ∧ d.ok K file = true := by
  have e2 : (fn.map fun d => fnM K (d.at_.a K))[i]? = (fn.map DefM.val)[i]? := by rw [c.fn]
  rw [List.getElem?_map, List.getElem?_map, h] at e2
  exact ⟨Option.some.inj e2, List.all_eq_true.mp c.ok d (List.mem_of_getElem? h)⟩
end
/-! ### the law's def -/
def spLaw (K : PySem.W.Frag) : Sp := fun vs H Q _ => ∃ (a : Addr) (ns : List Int), vs = [.ref a] ∧ SqL K H a (ns.map V.int) ∧ (∀ p ∈ tabsOf K, H p.1 = some (.tbl #[])) ∧ ∀ H', Q (.bl true) H'
theorem law_ly {P : Program} {w : World} {K : PySem.W.Frag} {mg : Str → Option Value} {base : Heap} {x qual : Str} {params : Arguments} {body : List Stmt} {scope : Scope} {f : Addr} {fd : FuncData} {N ps : List Str} {k r : Nat} {t : XK → TS} {b : List Sl → W Out}
    (F : FunD K x qual params body scope [] [] f fd) (S : FnScope N ps scope) (hps : ps.length = 1) (hN : N.length = r + 2) (hl : LS K t b)
    (hb : ∀ (cdv : Value) (A : Around) (outer : List Env) (s : Shared) (H : Hp) (E : XK), cdv = .ref (coA K f) → (A.deeper (envOfC qual scope s.heap.objs.size f cdv)).guards = some [] → Room k (A.deeper (envOfC qual scope s.heap.objs.size f cdv)) → Tk (cxOf (L2.CX P w) P w K mg base N qual scope f cdv A outer s H E) E →
      PSs (cxOf (L2.CX P w) P w K mg base N qual scope f cdv A outer s H E) body (tSeq (tAsg (tCall (Lx.spPen K) [] E (tCons (tVar 0) tNil)) (gName 1)) (t E)))
    (hw : ∀ ns : List Int, (b (some (.sct ns) :: some .pen :: List.replicate r none)).wp ⟨2 ^ 60, []⟩ (fun _ o => o = .rt (.bl true)) (fun _ _ => False)) : Lx.FnG P w K mg base (L2.CX P w) (k + 1) f fd ps (spLaw K) := by
  refine fnG_ofC F S (fun vs H Q E h => by obtain ⟨_, _, rfl, _⟩ := h; exact hps.symm) fun cdv A outer s H vs Q E hc hg hr h => ⟨_, hb cdv A outer s H E hc hg hr tk_of, ?_⟩
  obtain ⟨a, ns, rfl, hs, ht, q⟩ := h
  have est : L2.start N [V.ref a] = some (.ref a) :: none :: List.replicate r none := by
    unfold L2.start
    rw [hN]
    rfl
  rw [est]
  refine ⟨.ref a, rfl, a, ns, rfl, hs, fun p l cs H' hp hl0 hcs hk hp' hl' hlp => ?_⟩
  let w0 : Wd := ⟨[], upd (noTbl H) l (.lst (cs.map V.int)), H'⟩
  have lF : Le (upd (noTbl H) l (.lst (cs.map V.int))) H' := fun d o e => by
    by_cases hd : d = l
    · subst hd; rw [upd_same] at e; cases e; exact hl'
    · rw [upd_ne hd] at e; exact hk d o (noTbl_le (Le.refl H) d o e)
  have ok : Ok K ⟨p⟩ w0 ⟨2 ^ 60, []⟩ := by
    refine ⟨lF, ?_, List.not_mem_nil, List.nodup_nil, rfl, fun a z => absurd z List.not_mem_nil, ⟨l, cs, 0, 0, hp', SqL.of upd_same, hcs, by decide, by decide, by decide⟩, fun pq hpq => LamX.TabS.nil (hk _ _ (ht pq hpq)), fun d ps e => ?_, fun a z => absurd z List.not_mem_nil, fun a z => absurd z List.not_mem_nil, fun i a o e => by cases e⟩
    · show upd (noTbl H) l (.lst (cs.map V.int)) p = none
      rw [upd_ne hlp.symm]; exact noTbl_none hp
    · have e : upd (noTbl H) l (.lst (cs.map V.int)) d = some (.tbl ps) := e
      by_cases hd : d = l
      · subst hd; rw [upd_same] at e; cases e
      · rw [upd_ne hd] at e
        unfold noTbl at e
        split at e
        · cases e
        · rename_i hn; exact hn ps e
  have slo : Slo K ⟨p⟩ w0 (some (.ref a) :: some (.ref p) :: List.replicate r none) (some (.sct ns) :: some .pen :: List.replicate r none) := by
    refine ⟨by simp, fun i d e => ?_⟩
    match i, e with
    | 0, e => cases e; exact ⟨_, rfl, .sct (Le.sqL (Le.up (noTbl_none hl0)) (noTbl_sq hs))⟩
    | 1, e => cases e; exact ⟨_, rfl, .pen⟩
    | i + 2, e =>
      have e : (List.replicate r (none : Sl))[i]? = some (some d) := e
      rw [List.getElem?_replicate] at e
      split at e <;> cases e
  refine hl ⟨p⟩ w0 ⟨2 ^ 60, []⟩ _ _ _ E ok slo ((b _).mono (fun n o z w' g' o' => ?_) (fun _ _ z => z.elim) (hw ns))
  subst z
  intro v r1
  cases r1
  exact q w'.H
end Ly
set_option Elab.async false
set_option linter.all false
set_option maxRecDepth 100000
set_option maxHeartbeats 4000000
/-! Ly13: the end, with tables, where no repr runs. -/
namespace Ly
open PySem PySem.Spec L2 PyProof.Rows He
/-- what else may stand in the heap at the beginning: the script, the tables -/
theorem law_endT {P : Program} {w : World} {K : PySem.W.Frag} {mg mb : Str → Option Value} {CX : CXT} {k : Nat} {fa a : Addr} {cs : List (Addr × Addr)} {fd : FuncData} {x : Str} {sp : Sp} {s1 : Shared} {vs : List Value} {ns : List Int}
    (KX : K.In s1.heap) (hns : s1.heap.Ns mainGlobals mg) (hb : s1.heap.Ns builtinsNs mb) (hbb : ∀ x : Str, x ≠ "__name__" → mb x = bootBuiltins x) (hlim : s1.heap.NoLimit) (hg : s1.gens = #[])
    (hT : ∀ p ∈ cs, s1.heap.get? p.2 = some { cls := .none, data := .fields #[] }) (nT : ∀ p ∈ cs, K.lookup p.2 = none) (hC : ∀ p ∈ cs, PySem.W.CodeHd s1.heap p.1 p.2) (hsm : SmY s1.heap)
    (hbm : ∃ (bm : Addr) (ob : Obj), mg "__builtins__" = some (.ref bm) ∧ bm ≠ builtinsNs ∧ s1.heap.get? bm = some ob ∧ ob.cls = .type "module" ∧ ob.dict = some builtinsNs ∧ ob.data = .plain)
    (ha : s1.heap.get? a = some { cls := .type "list", data := .seq vs.toArray }) (hi : IntsAre vs ns) (hl : ns.length ≤ sizeLine) (hr : Room k callerA)
    (F : ∀ base : Heap, K.In base → base.Ns mainGlobals mg → (∀ p ∈ cs, LamX.TabB base mg p.1 p.2) → (∃ o, base.get? sysModules = some o) → Lx.FnG P w K mg base CX k fa fd [x] sp) (hbind : ∀ (s : Shared) (u : Value), BindsTo s fd ⟨[u], []⟩ [(x, u)])
    (hsp : ∀ H : Hp, (∀ p ∈ cs, H p.2 = some (.tbl #[])) → SqL K H a (ns.map V.int) → sp [.ref a] H (fun v _ => v = .bl true) fun _ _ _ => False)
    (hCX : ∀ H e s', CX [] H s1 (fun _ _ _ => False) e s' → False) :
    codeAny (model P w) callerA (.call (.ref fa) ⟨[.ref a], []⟩) (fun r s' => r = .ok (.ret (.bool true)) ∧ OldK s1.heap s'.heap ∧ s'.os = s1.os ∧ AllBare s'.gens) s1 := by
  classical
  let TT : List Addr := cs.map (·.2)
  have tabAt : ∀ b : Addr, b ∈ TT → s1.heap.get? b = some { cls := .none, data := .fields #[] } := fun b z => by
    obtain ⟨p, hp, e⟩ := List.mem_map.mp z
    rw [← e]; exact hT p hp
  have aOut : a ∉ TT := fun z => by
    have y := tabAt a z
    rw [ha] at y
    cases congrArg Obj.data (Option.some.inj y)
  have main : ∀ H : Hp, (∀ b, b ∈ TT → H b = some (.tbl #[])) → (∀ b, b ∉ TT → H b = none ∨ ∃ o xs, H b = some (.frz o (.lst xs))) → (∀ b, b ∉ TT → H b ≠ none → b = a) → (H a ≠ none → K.lookup a = none) → SqL K H a (ns.map V.int) → HOk P w H s1.heap →
      codeAny (model P w) callerA (.call (.ref fa) ⟨[.ref a], []⟩) (fun r s' => r = .ok (.ret (.bool true)) ∧ OldK s1.heap s'.heap ∧ s'.os = s1.os ∧ AllBare s'.gens) s1 := by
    intro H h1 h2 h3 h4 hS hok
    -- what is neither a list nor a table is not tracked
    have away : ∀ {b : Addr} {o : Obj}, s1.heap.get? b = some o → (∀ us n, o.data ≠ .seq us n) → o.data ≠ .fields #[] → H b = none := fun {b o} e n1 n2 => by
      by_cases z : b ∈ TT
      · rw [tabAt b z] at e
        cases e
        exact absurd rfl n2
      · by_cases y : H b = none
        · exact y
        · have e2 := h3 b z y
          subst e2
          rw [ha] at e
          cases e
          exact absurd rfl (n1 _ _)
    have ns_ : ∀ {b : Addr} {m : Str → Option Value}, s1.heap.Ns b m → (hidT s1.heap H).Ns b m := fun {b m} z => by
      obtain ⟨o, es, ep, e, d, r⟩ := z
      exact ⟨o, es, ep, hidT_get e (away e (fun us n y => by rw [d] at y; cases y) fun y => by rw [d] at y; cases y), d, r⟩
    have kin : K.In (hidT s1.heap H) := fun b o e => hidT_get (KX b o e) (by
      by_cases z : b ∈ TT
      · obtain ⟨p, hp, ep⟩ := List.mem_map.mp z
        rw [← ep, nT p hp] at e
        cases e
      · by_cases y : H b = none
        · exact y
        · have e2 := h3 b z y
          subst e2
          rw [h4 y] at e
          cases e)
    have md : L2.Mod K mg (hidT s1.heap H) := by
      obtain ⟨mc, l1, l2⟩ := hlim
      exact ⟨kin, ns_ hns, ⟨mb, ns_ hb, hbb⟩, ⟨mc, ns_ l1, l2⟩⟩
    have tbs : ∀ p ∈ cs, LamX.TabB (hidT s1.heap H) mg p.1 p.2 := fun p hp => by
      have ht := hT p hp
      refine ⟨?_, ?_, fun z => ?_⟩
      · obtain ⟨o, us, f1, f2, f3, f4, f5, f6, f7, e1, r1, r2, r3, rest⟩ := hC p hp
        refine ⟨o, us, f1, f2, f3, f4, f5, f6, f7, hidT_get e1 (away e1 (fun us n y => by rw [r2] at y; cases y) fun y => ?_), r1, r2, r3, rest⟩
        rw [r2] at y
        cases y
        simp at r3
      · obtain ⟨bm, ob, b1, b2, b3, b4, b5, b6⟩ := hbm
        refine ⟨bm, ob, b1, b2, fun z => ?_, fun z => ?_, hidT_get b3 (away b3 (fun us n y => by rw [b6] at y; cases y) fun y => by rw [b6] at y; cases y), b4, b5, b6⟩
        · obtain ⟨o, es, ep, e, hd, _⟩ := hns
          rw [z, e] at b3
          cases b3
          rw [hd] at b6
          cases b6
        · rw [z, ht] at b3
          cases b3
          cases b6
      · obtain ⟨o, es, ep, e, hd, _⟩ := hns
        rw [z, ht] at e
        cases e
        cases hd
    have smb : ∃ o, (hidT s1.heap H).get? sysModules = some o := by
      obtain ⟨o, e1, e2⟩ := hsm
      refine ⟨o, hidT_get e1 ?_⟩
      by_cases z : sysModules ∈ TT
      · rw [tabAt _ z] at e1; cases e1; cases e2
      · by_cases y : H sysModules = none
        · exact y
        · have e3 := h3 _ z y
          rw [e3, ha] at e1
          cases e1
          exact absurd e2 (show ¬ (Value.type "list" = Value.type "dict") by decide)
    have e0 : Env0 P w K mg (hidT s1.heap H) callerA [] s1 H := ⟨rfl, md, fun b o e => of_hidT e, Nat.le_of_eq (hidT_size _ _), trivial, fun b z => absurd (show b ∈ ([] : List Addr) from z) (by simp), hok, .of_eq hg⟩
    refine codeAny_mono ((F _ kin (ns_ hns) tbs smb).run callerA [] s1 H ⟨[.ref a], []⟩ [.ref a] [.ref a] _ _ rfl hr e0 (hbind s1 (.ref a)) (.cons rfl .nil) (hsp H (fun p hp => h1 p.2 (List.mem_map.mpr ⟨p, hp, rfl⟩)) hS)) fun r s2 z2 => ?_
    cases r with
    | error e => exact (hCX H e s2 z2).elim
    | ok fl => cases fl with
      | next => exact False.elim z2
      | brk => exact False.elim z2
      | cont => exact False.elim z2
      | ret u =>
        obtain ⟨v, H2, os, bare, un, hok2, r2, q⟩ := z2
        have q2 : v = .bl true := q
        subst q2
        have r3 : u = Value.bool true := r2
        subst r3
        have stays : ∀ b o, b ∉ TT → s1.heap.get? b = some o → s2.heap.get? b = some o := fun b o nb e => by
          rcases h2 b nb with z | ⟨ob, xs, z⟩
          · exact un.keep b o e z (fun y => absurd (show b ∈ ([] : List Addr) from y) (by simp)) (by simp)
          · have y := un.frzs b ob _ z
            have e1 := (hok b _ z).1
            rw [e] at e1
            cases e1
            exact (hok2 b _ y).1
        have more : ∀ b, b ∈ TT → ∃ us : Array Value, s2.heap.get? b = some { cls := .none, data := .fields us } := fun b hb2 => by
          obtain ⟨us, z⟩ := un.tbls b #[] (h1 b hb2)
          exact ⟨_, hok2 b _ z⟩
        refine ⟨rfl, ⟨fun b o e => ?_, fun b o e => ?_⟩, os, bare⟩
        · by_cases hb2 : b ∈ TT
          · obtain ⟨us, hus⟩ := more b hb2
            obtain ⟨p, hp, ep⟩ := List.mem_map.mp hb2
            subst ep
            rw [hT p hp] at e
            cases e
            exact .inr (.inl ⟨((hC p hp).tab (hT p hp)).isCodeTable, rfl, #[], us, rfl, by rw [Array.empty_append]; exact hus⟩)
          · exact .inl (stays b o hb2 e)
        · by_cases hb2 : b ∈ TT
          · obtain ⟨us, hus⟩ := more b hb2
            exact ⟨_, hus⟩
          · exact ⟨o, stays b o hb2 e⟩
  have rv := vals_ints hi
  cases hk : K.lookup a with
  | some o =>
    have e := KX a o hk
    rw [ha] at e
    cases e
    let H : Hp := fun b => if b ∈ TT then some (.tbl #[]) else none
    have on : ∀ b, b ∈ TT → H b = some (.tbl #[]) := fun b z => if_pos z
    have off : ∀ b, b ∉ TT → H b = none := fun b z => if_neg z
    refine main H on (fun b z => .inl (off b z)) (fun b z y => absurd (off b z) y) (fun y => absurd (off a aOut) y) (.inr ⟨_, vs.toArray, _, hk, rfl, rfl, rfl, by rw [List.size_toArray, hi.length]; exact hl, by simpa using rv⟩) fun b u z => ?_
    by_cases hb2 : b ∈ TT
    · rw [on b hb2] at z; cases z; exact tabAt b hb2
    · rw [off b hb2] at z; cases z
  | none =>
    let H : Hp := fun b => if b = a then some (.frz { cls := .type "list", data := .seq vs.toArray } (.lst (ns.map V.int))) else if b ∈ TT then some (.tbl #[]) else none
    have at_ : H a = some (.frz { cls := .type "list", data := .seq vs.toArray } (.lst (ns.map V.int))) := if_pos rfl
    have on : ∀ b, b ∈ TT → H b = some (.tbl #[]) := fun b z => (if_neg fun (e : b = a) => aOut (e ▸ z)).trans (if_pos z)
    have off : ∀ b, b ∉ TT → b ≠ a → H b = none := fun b z y => (if_neg y).trans (if_neg z)
    refine main H on (fun b z => ?_) (fun b z y => ?_) (fun _ => hk) (.inl (.inr ⟨_, at_⟩)) fun b u z => ?_
    · by_cases e : b = a
      · subst e; exact .inr ⟨_, _, at_⟩
      · exact .inl (off b z e)
    · by_cases e : b = a
      · exact e
      · exact absurd (off b z e) y
    · by_cases e : b = a
      · subst e
        rw [at_] at z
        cases z
        exact ⟨ha, by rw [List.length_map]; exact hl, vs, _, rv, ha⟩
      · by_cases hb2 : b ∈ TT
        · rw [on b hb2] at z; cases z; exact tabAt b hb2
        · rw [off b hb2 e] at z; cases z
theorem walk_T {l : PySem.W.OpenLaw} {n k : Nat} {q : Program} {loose : List Str} {XP : (Str → Option Value) → Heap → Prop} {YP : World → Heap → Prop} {d : DefRec} {CX : World → CXT} {x : Str}
    (hn : l.most = some n) (hn2 : n ≤ sizeLine) (hdf : d.params.defaults = []) (hr : Room k callerA)
    (F : ∀ (w : World) (mg : Str → Option Value) (fa : Addr) (h : Heap), YP w h → h.Ns mainGlobals mg → mg d.name = some (.ref fa) →
      ∃ (K : PySem.W.Frag) (fd : FuncData) (sp : Sp), K.In h ∧ TabsY K h ∧ SmY h ∧ (∀ (s : Shared) (u : Value), BindsTo s fd ⟨[u], []⟩ [(x, u)]) ∧
        (∀ (H : Hp) (a : Addr) (ns : List Int), ns.length ≤ n → (∀ p ∈ tabsOf K, H p.1 = some (.tbl #[])) → SqL K H a (ns.map V.int) → sp [.ref a] H (fun v _ => v = .bl true) fun _ _ _ => False) ∧
        ∀ base : Heap, K.In base → base.Ns mainGlobals mg → (∀ t ∈ tabs3 K, LamX.TabB base mg t.1 t.2.1) → (∃ o, base.get? sysModules = some o) → Lx.FnG l.prog w K mg base (CX w) k fa fd [x] sp)
    (hCX : ∀ (w : World) (H : Hp) (s : Shared) (e : Value) (s' : Shared), CX w [] H s (fun _ _ _ => False) e s' → False) :
    PySem.W.WalkO q loose XP YP l.row.toRowW d [] (fun f vs => PySem.call f vs) := by
  refine Att.attach_call hn hdf fun w s0 s1 mg mb fa o pm cd doc a vs ns G Y ho hd hcd hmg hobj hints hlen hg => ?_
  obtain ⟨K, fd, sp, KX, tY, hsm, hb, hsp, hF⟩ := F w mg fa _ Y G.T.g hmg
  have ht : ∀ p ∈ (tabs3 K).map (fun t => (t.1, t.2.1)), ∃ t ∈ tabs3 K, p = (t.1, t.2.1) := fun p hp => by
    obtain ⟨t, h1, h2⟩ := List.mem_map.mp hp
    exact ⟨t, h1, h2.symm⟩
  refine law_endT (cs := (tabs3 K).map fun t => (t.1, t.2.1)) KX G.T.g G.T.b G.T.builtins G.T.nolimit hg (fun p hp => ?_) (fun p hp => ?_) (fun p hp => ?_) hsm G.T.bmain hobj hints (Nat.le_trans hlen hn2) hr (fun base k1 k2 k3 k4 => hF base k1 k2 (fun t h1 => k3 (t.1, t.2.1) (List.mem_map.mpr ⟨t, h1, rfl⟩)) k4) hb (fun H hH hS => hsp H a ns hlen (fun p hp => ?_) hS) fun H e s' => hCX w H s1 e s'
  · obtain ⟨t, h1, rfl⟩ := ht p hp; exact (tY t h1).1
  · obtain ⟨t, h1, rfl⟩ := ht p hp; exact (tY t h1).2.2
  · obtain ⟨t, h1, rfl⟩ := ht p hp; exact (tY t h1).2.1
  · obtain ⟨t, h1, h2⟩ := List.mem_map.mp hp
    rw [← h2]
    exact hH (t.1, t.2.1) (List.mem_map.mpr ⟨t, h1, rfl⟩)
end Ly
set_option Elab.async false
set_option linter.all false
set_option maxRecDepth 100000
set_option maxHeartbeats 4000000
/-! Ly14: x(lambda: e), packed. -/
namespace Ly
open PySem PySem.Spec L2 PyProof.Rows He
/-- the def x calls what it got; TT: what it makes of it -/
structure CatF (K : PySem.W.Frag) (mg : Str → Option Value) (x a : Str) (TT : (XK → Hp → VK → Prop) → Hp → VK → Prop) : Prop where
  ex : ∃ (pg : Arguments) (bg : List Stmt) (sg : Scope) (fd : FuncData) (Ng : List Str), FunD K x x pg bg sg [] [] (ga K x) fd ∧ L2.Binds K fd [a] [] ∧ FnScope Ng [a] sg ∧ Ng[0]? = some a ∧ Vis sg a ∧ ∀ X : Cx, X.K = K → X.mg = mg → ∀ (q : Str) (cdg : Value), LamX.GivesTo X Ng x sg (ga K x) cdg bg a q TT
def IsRef (a e fld : Str) (bg : List Stmt) : Prop := ∃ (p1 p2 p3 p4 p5 p6 p7 p8 p9 p10 p11 p12 p13 p14 p15 p16 : Pos) (j : Nat), bg = [.Try [.Expr (.Call (.Name a p1) [] [] p2) p3] [.ExceptHandler (some (.Name e p4)) (some "e") [.Return (some (.List [.Attribute (.Name "e" p5) fld p6, .Call (.Name "isinstance" p7) [.Name "e" p8, .Name "ValueError" p9] [] p10] p11)) p12] p13] [] [] p14, .Return (some (.Constant .none j p15)) p16]
def IsCau (a e fld : Str) (bg : List Stmt) : Prop := ∃ (p1 p2 p3 p4 p5 p6 p7 p8 p9 p10 p11 p12 p13 p14 p15 : Pos) (j j2 : Nat), bg = [.Try [.Return (some (.Call (.Name a p1) [] [] p2)) p3] [.ExceptHandler (some (.Name e p4)) (some "e") [.Return (some (.Tuple [.Constant (.str "wrong") j p15, .Attribute (.Name "e" p5) fld p6, .Call (.Name "isinstance" p7) [.Name "e" p8, .Name "ValueError" p9] [] p10] j2 p11)) p12] p13] [] [] p14]
section
variable {K : PySem.W.Frag} {mg : Str → Option Value} {x a e fld : Str} {pg : Arguments} {bg : List Stmt} {sg : Scope} {fd : FuncData}
theorem catF_ref (T : CatC K (ga K e) fld) (F : FunD K x x pg bg sg [] [] (ga K x) fd) (hb : L2.Binds K fd [a] []) (S : FnScope [a, "e"] [a] sg) (hv : Vis sg a) (hbg : IsRef a e fld bg) (hne : a ≠ "e") (hge : sg.names.lookup e = some .globalImplicit) (hme : mg e = some (.ref (ga K e))) (hde : (e == ("__debug__" : Str)) = false)
    (hle : sg.names.lookup ("e" : Str) = some .local) (hgi : sg.names.lookup ("isinstance" : Str) = some .globalImplicit) (hmi : mg "isinstance" = none) (hgv : sg.names.lookup ("ValueError" : Str) = some .globalImplicit) (hmv : mg "ValueError" = none) : CatF K mg x a (TRef (ga K e) fld) := by
  refine ⟨pg, bg, sg, fd, _, F, hb, S, rfl, hv, fun X e1 e2 q cdg => ?_⟩
  obtain ⟨p1, p2, p3, p4, p5, p6, p7, p8, p9, p10, p11, p12, p13, p14, p15, p16, j, rfl⟩ := hbg
  subst e1 e2
  exact gives_ref T hne hge hme hde hle hgi hmi hgv hmv
theorem catF_cau (T : CatC K (ga K e) fld) (F : FunD K x x pg bg sg [] [] (ga K x) fd) (hb : L2.Binds K fd [a] []) (S : FnScope [a, "e"] [a] sg) (hv : Vis sg a) (hbg : IsCau a e fld bg) (hne : a ≠ "e") (hge : sg.names.lookup e = some .globalImplicit) (hme : mg e = some (.ref (ga K e))) (hde : (e == ("__debug__" : Str)) = false)
    (hle : sg.names.lookup ("e" : Str) = some .local) (hgi : sg.names.lookup ("isinstance" : Str) = some .globalImplicit) (hmi : mg "isinstance" = none) (hgv : sg.names.lookup ("ValueError" : Str) = some .globalImplicit) (hmv : mg "ValueError" = none) : CatF K mg x a (TCau (ga K e) fld) := by
  refine ⟨pg, bg, sg, fd, _, F, hb, S, rfl, hv, fun X e1 e2 q cdg => ?_⟩
  obtain ⟨p1, p2, p3, p4, p5, p6, p7, p8, p9, p10, p11, p12, p13, p14, p15, j, j2, rfl⟩ := hbg
  subst e1 e2
  exact gives_cau T hne hge hme hde hle hgi hmi hgv hmv
end
/-- facts of the def that makes the lambda -/
structure LamM (K : PySem.W.Frag) (base : Heap) (mg : Str → Option Value) (y q : Str) : Prop where
  tb : LamX.TabB base mg (coA K (ga K y)) (tbA K (ga K y))
  mem : (tbA K (ga K y), q) ∈ tabsOf K
  one : ∀ p ∈ tabsOf K, p.1 = tbA K (ga K y) → p.2 = q
theorem lamM_of {K : PySem.W.Frag} {base : Heap} {mg : Str → Option Value} {y q : Str} (h : (Fy.lam y q).ok K = true) (tb : ∀ t ∈ tabs3 K, LamX.TabB base mg t.1 t.2.1) : LamM K base mg y q := by
  obtain ⟨h1, h2⟩ := fy_lam h
  exact ⟨tb _ h1, List.mem_map.mpr ⟨_, h1, rfl⟩, h2⟩
theorem pe_lamF {X : Cx} {TT : (XK → Hp → VK → Prop) → Hp → VK → Prop} {x a y q : Str} {k : Nat} {params : Arguments} {body : Expr} {scope : Scope} {t : XK → TE} {p lpos pos : Pos}
    (C : CatF X.K X.mg x a TT) (M : LamM X.K X.base X.mg y q) (hcode : X.env.code = .ref (coA X.K (ga X.K y))) (hq : X.env.qual ++ "<lambda>" = q) (hr : Room (k + 2) X.A) (hg : Gl X x) (hm : X.mg x = some (.ref (ga X.K x))) (L : LamX.LamS X.env.scope scope) (hdef : defaultsOf params X.env = ([], []))
    (hbind : ∀ (q : Str) (cl : List (Str × Addr)) (pm cv ctv : Value), bindArgs (PySem.W.kla_fn "<lambda>" q params body scope cl pm cv ctv) ⟨[], []⟩ = pure [])
    (hbody : ∀ (A : Around) (outer : List Env) (s : Shared) (H : Hp) (E : XK) (f c' : Addr), Room k (A.deeper (LamX.lamEnv X scope s.heap.objs.size f c')) → PE (LamX.lamCx X A outer s H E scope f c') body (t E))
    (hdb : (x == ("__debug__" : Str)) = false) (hd : (a == ("__debug__" : Str)) = false) (hcd : (a == ("__classdict__" : Str)) = false) :
    PE X (.Call (.Name x p) [.Lambda params body scope lpos] [] pos) (LamX.tLam (tabsOf X.K) TT t) := by
  obtain ⟨pg, bg, sg, fd, Ng, F, hb, S, h0, hv, G⟩ := C.ex
  obtain ⟨oc, od, dV, kV, doc, pm, an, cdv, ct, osl, rfl, lk, hcd2, _, _⟩ := F.ex
  subst hq
  exact LamX.pe_lamcall hg hm F.kp lk hcd2 hb S h0 hv (G X rfl rfl _ _) M.tb hcode M.mem M.one hr L hdef hbind hbody hdb hd hcd
end Ly
set_option Elab.async false
set_option linter.all false
set_option maxRecDepth 100000
set_option maxHeartbeats 2000000
/-! Ly17: own exceptions straight over a built-in one of any kind: fields set, super().__init__, made as values. -/
namespace Ly
open PySem PySem.Spec L2 PyProof.Rows
open Lx (Le SupScope SupD SupC cxS inv_super at_app with_bound)
/-- facts of the built-in exception B; tl: its mro -/
structure BaseX (B newId initId : String) (tl : List Value) : Prop where
  ef : ExcBaseFacts B newId initId tl
  kx : PySem.W.KxsFacts B initId
  st : ∀ self : Value, PySem.refuseLoop self "__setattr__" tl = pure ()
  ob : tl.contains (.type "object") = true
theorem baseVE : BaseX "ValueError" "ValueError.__new__" "ValueError.__init__" [.type "ValueError", .type "Exception", .type "BaseException", .type "object"] := ⟨F.excBase_ValueError, PySem.W.kxs_ValueError, F.store_ValueError.passes, by decide +kernel⟩
theorem baseLE : BaseX "LookupError" "LookupError.__new__" "LookupError.__init__" [.type "LookupError", .type "Exception", .type "BaseException", .type "object"] := ⟨F.excBase_LookupError, PySem.W.kxs_LookupError, F.store_LookupError.passes, by decide +kernel⟩
theorem baseRE : BaseX "RuntimeError" "RuntimeError.__new__" "RuntimeError.__init__" [.type "RuntimeError", .type "Exception", .type "BaseException", .type "object"] := ⟨F.excBase_RuntimeError, PySem.W.kxs_RuntimeError, F.store_RuntimeError.passes, by decide +kernel⟩
theorem baseOE : BaseX "OverflowError" "OverflowError.__new__" "OverflowError.__init__" [.type "OverflowError", .type "ArithmeticError", .type "Exception", .type "BaseException", .type "object"] := ⟨F.excBase_OverflowError, PySem.W.kxs_OverflowError, F.store_OverflowError.passes, by decide +kernel⟩
/-- facts of the own class at C -/
structure OB (K : PySem.W.Frag) (C : Addr) (B newId initId : String) (tl : List Value) : Prop where
  b : BaseX B newId initId tl
  cls : ∃ nm q N bs sn sub ab col dd k0 k1 k2 k3 k5, K.lookup C = some (excClassObj nm q C N bs tl true sn sub ab col dd k0 k1 k2 k3 k5 newId)
  sa : PySem.W.findIn K (.ref C) "__setattr__" = some (some (.builtin "object.__setattr__"))
  exC : PySem.W.subIn K (.ref C) (.type "BaseException") = some true
  tyC : PySem.W.typeIn K (.ref C) = some (.type "type")
  kC : PySem.W.keepIn K (.ref C) = true
/-- a mro that lets stores pass -/
structure MroP (l : List Value) : Prop where
  ne : l.isEmpty = false
  ob : l.contains (.type "object") = true
  pass : ∀ self : Value, PySem.refuseLoop self "__setattr__" l = pure ()
theorem BaseX.mro {B newId initId : String} {tl : List Value} (b : BaseX B newId initId tl) (C : Addr) : MroP (.ref C :: tl) := ⟨rfl, by rw [List.contains_cons, b.ob, Bool.or_true], fun self => by rw [refuseLoop_ref]; exact b.st self⟩
section
open PySem.W PySem.Calls PySem.HandSPX Builtin Builtin.ObjectAttr
variable {prog : Program} {w : World} {A : Around} {E : Value → Shared → Prop} {R : Result → Shared → Prop} {hp : Heap} {g : Array GenState} {d : Drawn} {t : Nat} {os : OsState}
theorem osaB {K : W.Frag} {name : Str} {tk : Tok} {v : Value} {x C : Addr} {ox : Obj} {od : Option Obj} {cd : ClassData} (X : K.In hp) (I : W.InstAt hp x ox C od) (hcd : W.clsIn K C = some cd) (hm : MroP cd.mro) (ha : W.findIn K (.ref C) name = some none)
    (hq : wpAny (model prog w) A.in1 (storeInOwnDict (.ref x) (.ref C) (.str name tk) name v false) (fun f s' => match f with | .done f => R (.ok f) s' | .again c => c.quiet = true ∧ codeAny (model prog w) A c R s') (fun e s' => R (.error e) s') ⟨hp, g, d, t, os⟩) :
    codeAny (model prog w) A (.call (.builtin "object.__setattr__") ⟨[.ref x, .str name tk, v], []⟩) R ⟨hp, g, d, t, os⟩ := by
  have SF := F.store_object
  have sub : W.Looks (model prog w) hp (isInstance (.ref x) (.type "object")) true := I.type.andThen (W.looks_mroIn X (by unfold W.mroIn; rw [hcd, Option.bind_some, if_neg (by rw [hm.ne]; decide), hm.ob]))
  refine codeAny_call_builtin SF.slot.plain SF.entry (@W.check_slot (model prog w) _ _ ⟨hp, g, d, t, os⟩ "object.__setattr__" "object" "__setattr__" (.ref x) [.str name tk, v] [] _ SF.kind SF.split sub (SF.args (.ref x) (.str name tk) v) ?_)
  have hmr : W.Looks (model prog w) hp (mroOf (.ref C)) cd.mro := (W.looks_clsIn X hcd).andThen .now
  have L3 : W.Looks (model prog w) hp (storeTaker? none) none := .now
  rw [W.osa_eq, refuse_eq]
  refine wpAny_bind (wpAny_bind (I.type.at (wpAny_bind (hmr.at ?_))))
  rw [hm.pass]
  exact wpAny_pure (wpAny_bind (I.type.at (wpAny_bind ((W.looks_findIn X ha).at (wpAny_bind (L3.at hq))))))
theorem osa_newB {K : W.Frag} {name : Str} {tk : Tok} {v : Value} {x C : Addr} {fv : Array Value} {cd : ClassData}
    (X : K.In hp) (hx : hp.get? x = some { cls := .ref C, data := .fields fv }) (hcd : W.clsIn K C = some cd) (hm : MroP cd.mro) (hh : cd.hasDict = true) (ha : W.findIn K (.ref C) name = some none)
    (hq : ∀ h' tk' dx, (∀ b o, b ≠ x → hp.get? b = some o → h'.get? b = some o) → hp.objs.size ≤ dx → dx ≠ x → h'.get? x = some { cls := .ref C, dict := some dx, data := .fields fv } →
      h'.Ns1 dx (fun y => if y = name then some v else none) → R (.ok (.ret .none)) ⟨h', g, d, tk', os⟩) :
    codeAny (model prog w) A (.call (.builtin "object.__setattr__") ⟨[.ref x, .str name tk, v], []⟩) R ⟨hp, g, d, t, os⟩ := by
  have I : W.InstAt hp x { cls := .ref C, data := .fields fv } C none := ⟨hx, rfl, rfl, trivial⟩
  have hxs : x ≠ hp.objs.size := Nat.ne_of_lt (Heap.lt_size hx)
  have hcls : W.Looks (model prog w) hp (classData C) cd := W.looks_clsIn X hcd
  refine osaB X I hcd hm ha ?_
  obtain ⟨nm, bs, mro, ns, qn, hd, sn, sb, ab, col, del⟩ := cd
  dsimp only at hh
  subst hh
  unfold storeInOwnDict ownDictForStores
  repeat (first | with_reducible refine store_in_new ?_ ?_ | with_reducible refine wpAny_loadPart_at hx ?_ | with_reducible refine hcls.at ?_ | wp_step)
  · exact ⟨_, #[], _, (Heap.get?_update_ne _ _ _ _ hxs.symm).trans (Heap.get?_push_at rfl rfl), rfl, fun e he => absurd he (by simp), fun _ => rfl⟩
  · intro h' tk' hn' hs
    have hx₁ : (hp.push { cls := .type "dict", data := .dict #[] }).get? x = some { cls := .ref C, data := .fields fv } := Heap.get?_push_of_some _ hx
    refine hq h' tk' hp.objs.size (fun b o hb ho => ?_) (Nat.le_refl _) hxs.symm ?_ hn'
    · exact (hs.2 b (Nat.ne_of_lt (Heap.lt_size ho))).trans ((Heap.get?_update_ne _ _ _ _ hb).trans (Heap.get?_push_of_some _ ho))
    · exact (hs.2 x hxs).trans (Heap.get?_update_self _ hx₁ rfl)
theorem osa_oldB {K : W.Frag} {name : Str} {tk : Tok} {v : Value} {x C dx : Addr} {fv : Array Value} {cd : ClassData} {m0 : Str → Option Value} {nl : List Str}
    (X : K.In hp) (hx : hp.get? x = some { cls := .ref C, dict := some dx, data := .fields fv }) (hns : hp.Ns1 dx m0) (hw : Within m0 nl) (hz : nl.length ≤ 1000) (hcd : W.clsIn K C = some cd) (hm : MroP cd.mro) (hh : cd.hasDict = true)
    (ha : W.findIn K (.ref C) name = some none)
    (hq : ∀ h' tk', (∀ b o, b ≠ dx → hp.get? b = some o → h'.get? b = some o) → h'.Ns1 dx (fun y => if y = name then some v else m0 y) → R (.ok (.ret .none)) ⟨h', g, d, tk', os⟩) :
    codeAny (model prog w) A (.call (.builtin "object.__setattr__") ⟨[.ref x, .str name tk, v], []⟩) R ⟨hp, g, d, t, os⟩ := by
  obtain ⟨oD, esD, epD, hoD, hdD, _⟩ := hns.count hw
  have I : W.InstAt hp x { cls := .ref C, dict := some dx, data := .fields fv } C (some oD) := ⟨hx, rfl, rfl, hoD⟩
  have hcls : W.Looks (model prog w) hp (classData C) cd := W.looks_clsIn X hcd
  refine osaB X I hcd hm ha ?_
  obtain ⟨nm, bs, mro, ns, qn, hd, sn, sb, ab, col, del⟩ := cd
  dsimp only at hh
  subst hh
  unfold storeInOwnDict ownDictForStores
  repeat (first | with_reducible refine PySem.OEX.store_in_old hns hw hz ?_ | with_reducible refine wpAny_loadPart_at hx ?_ | with_reducible refine hcls.at ?_ | wp_step)
  intro h' tk' hn' hs
  exact hq h' tk' (fun b o hb ho => (hs.2 b hb).trans ho) hn'
end
end Ly
set_option Elab.async false
set_option linter.all false
set_option maxRecDepth 100000
set_option maxHeartbeats 2000000
/-! Ly18: inits of own exceptions of any base, by super().__init__ and fields set. -/
namespace Ly
open PySem PySem.Spec L2 PyProof.Rows
open Lx (Le SupScope SupD SupC cxS inv_super at_app with_bound)
section
variable {B newId initId : String} {tl : List Value}
section
variable {X : Cx} {pins : List (Addr × Obj)} {σ : L2.St} {H : Hp} {s : Shared} {a C dx : Addr} {f : Str} {y : V} {u : Value} {fs : List (Str × V)} {Q : Unit → Shared → Prop} {E : Value → Shared → Prop} {A : Around}
/-- self.f = y, the first one -/
theorem ost_newB (T : OB X.K C B newId initId tl) (I : Inv X pins σ H s) (e : H a = some (exo a C none)) (hno : PySem.W.findIn X.K (.ref C) f = some none) (ry : RelV y u)
    (h : ∀ dx s', H dx = none → dx ≠ a → Inv X pins σ (upd (upd H dx (exd dx [(f, y)])) a (exo a C (some dx))) s' → Q () s') : wpAny (model X.prog X.w) A (setAttr (.ref a) f u) Q E s := by
  obtain ⟨nm, q, N, bs, sn, sub, ab, col, dd, k0, k1, k2, k3, k5, hC⟩ := T.cls
  have hcl : PySem.W.clsIn X.K C = some { name := nm, bases := bs, mro := .ref C :: tl, ns := N, qualname := q, hasDict := true, slotNames := sn, subclasses := sub, abstract := ab, collection := col, hasDel := false } := by unfold PySem.W.clsIn; rw [hC] <;> rfl
  obtain ⟨t1, ho⟩ := exo_at I.hok e
  obtain ⟨hp, g, d, t, os⟩ := s
  refine PySem.W.set_plain I.kIn (ox := { cls := .ref C, dict := none, data := .fields #[.ref t1, .none, .none, .none, .bool false, .none] }) (od := none) ⟨ho, rfl, rfl, trivial⟩ T.sa ?_
  refine osa_newB I.kIn ho hcl (T.b.mro C) rfl hno (fun h' tk' dx k dn dne hx hn => ?_)
  have hnd : H dx = none := I.hok.fresh dn
  have nd : ∀ {b : Addr} {o : Obj}, hp.get? b = some o → b ≠ dx := fun {b o} q => Nat.ne_of_lt (Nat.lt_of_lt_of_le (Heap.lt_size q) dn)
  have na : ∀ {b : Addr}, H b = none → b ≠ a := fun {b} n z => by
    rw [z, e] at n
    cases n
  have Un1 : Un X.fs [] H (upd (upd H dx (exd dx [(f, y)])) a (exo a C (some dx))) hp h' := {
    keep := fun b o q n _ _ => k b o (na n) q
    slot := fun b o q n _ _ => ⟨o.slots, k b o (na n) q⟩
    free := fun b o q n _ => by rw [upd_ne (na n), upd_ne (nd q)]; exact n
    there := fun b o q _ => by
      by_cases hb : b = a
      · exact ⟨_, by rw [hb]; exact hx⟩
      · exact ⟨o, k b o hb q⟩
    tups := fun b xs q => by rw [upd_ne (at_ne e q exo_tup), upd_ne (ne_of_none q hnd)]; exact q
    frzs := fun b o v q => by rw [upd_ne (at_ne e q exo_frz), upd_ne (ne_of_none q hnd)]; exact q
    tbls := fun b ps q => ⟨#[], by rw [upd_ne (at_ne e q exo_tbl), upd_ne (ne_of_none q hnd), q]; simp⟩ }
  refine h dx _ hnd dne (I.un (t' := tk') Un1 fun b o q => ?_)
  by_cases hb : b = a
  · subst hb
    rw [upd_same] at q
    cases q
    exact exo_ok hx
  · rw [upd_ne hb] at q
    by_cases hd : b = dx
    · subst hd
      rw [upd_same] at q
      cases q
      exact exd_ok hn (relO_put (fs := []) ry fun g => True.intro)
    · rw [upd_ne hd] at q
      exact (I.hok b o q).stay (fun c v hc z => k c v (by
          rcases hc with hc | hc
          · rw [hc]
            exact hb
          · exact at_ne e hc exo_own) z)
        (fun c hc => by rw [upd_ne (at_ne e hc exo_own), upd_ne (ne_of_none hc hnd)]; exact hc) (fun c xs hc => by rw [upd_ne (at_ne e hc exo_tup), upd_ne (ne_of_none hc hnd)]; exact hc)
/-- self.f = y, a further one -/
theorem ost_oldB (T : OB X.K C B newId initId tl) (I : Inv X pins σ H s) (e : H a = some (exo a C (some dx))) (ed : H dx = some (exd dx fs)) (hl : fs.length ≤ 900) (hno : PySem.W.findIn X.K (.ref C) f = some none) (ry : RelV y u)
    (h : ∀ s', Inv X pins σ (upd H dx (exd dx ((f, y) :: fs))) s' → Q () s') : wpAny (model X.prog X.w) A (setAttr (.ref a) f u) Q E s := by
  obtain ⟨nm, q, N, bs, sn, sub, ab, col, dd, k0, k1, k2, k3, k5, hC⟩ := T.cls
  have hcl : PySem.W.clsIn X.K C = some { name := nm, bases := bs, mro := .ref C :: tl, ns := N, qualname := q, hasDict := true, slotNames := sn, subclasses := sub, abstract := ab, collection := col, hasDel := false } := by unfold PySem.W.clsIn; rw [hC] <;> rfl
  obtain ⟨t1, ho⟩ := exo_at I.hok e
  obtain ⟨mA, hns, rel⟩ := exd_at I.hok ed
  have hw := within_of rel
  obtain ⟨hp, g, d, t, os⟩ := s
  obtain ⟨oD, _, _, hoD, _, _⟩ := hns.count hw
  refine PySem.W.set_plain I.kIn (ox := { cls := .ref C, dict := some dx, data := .fields #[.ref t1, .none, .none, .none, .bool false, .none] }) (od := some oD) ⟨ho, rfl, rfl, hoD⟩ T.sa ?_
  refine osa_oldB I.kIn ho hns hw (by rw [List.length_map]; omega) hcl (T.b.mro C) rfl hno (fun h' tk' k hn => ?_)
  have hd : ∃ o, h'.get? dx = some o := by
    obtain ⟨o, _, _, e', _⟩ := hn
    exact ⟨o, e'⟩
  exact h _ (I.write (t' := tk') (x := dx) (e := dx) (o := exd dx ((f, y) :: fs)) (by rw [ed]; exact True.intro) (.inl rfl) k hd (exd_ok hn (relO_put ry rel)))
end
/-- self.f = e, self an exception of the class at C -/
def tOstB (C : Addr) (f : Str) (to te : TE) : TS := fun D σ H => te σ H fun y H1 => to σ H1 fun x H2 => ∃ a : Addr, x = .ref a ∧
  ((H2 a = some (exo a C none) ∧ ∀ dx, H2 dx = none → dx ≠ a → D.nx σ (upd (upd H2 dx (exd dx [(f, y)])) a (exo a C (some dx)))) ∨
    ∃ (dx : Addr) (fs : List (Str × V)), H2 a = some (exo a C (some dx)) ∧ H2 dx = some (exd dx fs) ∧ fs.length ≤ 900 ∧ D.nx σ (upd H2 dx (exd dx ((f, y) :: fs))))
theorem ps_ostB {X : Cx} {o e : Expr} {to te : TE} {f : Str} {p' pos : Pos} {C : Addr} (T : OB X.K C B newId initId tl) (hno : PySem.W.findIn X.K (.ref C) f = some none) (ho : PE X o to) (he : PE X e te) (hs : swapsWith e (some (.Attribute o f p')) pos.line X.env = pure false) : PS X (.Assign [.Attribute o f p'] e pos) (tOstB C f to te) := by
  refine ⟨fun pins s σ H D I h => ?_⟩
  refine plainObj_wpAny_Assign_Attribute (thn (he.run pins s σ H _ I h) fun v s1 ⟨y, H1, I1, r1, q1⟩ => thn (ho.run pins s1 σ H1 _ I1 q1) fun u s2 ⟨x, H2, I2, r2, a, ex, q⟩ => ?_) hs
  subst ex
  obtain rfl : u = Value.ref a := r2
  rcases q with ⟨ea, q⟩ | ⟨dx, fs, ea, ed, hl, q⟩
  · exact ost_newB T I2 ea hno r1 fun dx s' n ne J => ⟨σ, _, J, q dx n ne⟩
  · exact ost_oldB T I2 ea ed hl hno r1 fun s' J => ⟨σ, _, J, q⟩
/-- the wrapper of B.__init__, bound to the exception at e, called -/
theorem mw_callB {prog : Program} {w : World} {A : Around} {E : Value → Shared → Prop} {K : PySem.W.Frag} {C e u t0 : Addr} {rest : List Value} {Q : Value → Shared → Prop} {h : Heap} {g : Array GenState} {d : Drawn} {t : Nat} {os : OsState} (T : OB K C B newId initId tl) (KX : K.In h)
    (he : h.get? e = some (PySem.HandSPX.excO C t0)) (hu : h.get? u = some (PySem.W.kxs_mw initId e)) (hz : rest.length ≤ sizeLine)
    (hq : ∀ h' t1, (∀ b o, b ≠ e → h.get? b = some o → h'.get? b = some o) → h'.get? e = some (PySem.HandSPX.excO C t1) → Q .none ⟨h', g, d, t, os⟩) : wpAny (model prog w) A (call (.ref u) rest) Q E ⟨h, g, d, t, os⟩ := by
  obtain ⟨nm, q, N, bs, sn, sub, ab, col, dd, k0, k1, k2, k3, k5, hC⟩ := T.cls
  refine wpAny_call (codeAny_of_tree ?_)
  show wpAny _ A.in1 (callAny (.ref u) ⟨rest, []⟩) _ _ _
  simp only [callAny]
  refine wpAny_bind (wpAny_load hu ?_)
  have e1 : (Value.type "method-wrapper" == Value.type "method" || Value.type "method-wrapper" == Value.type "builtin_function_or_method" || Value.type "method-wrapper" == Value.type "method-wrapper") = true := by decide
  simp only [PySem.W.kxs_mw, e1, if_true]
  refine PySem.W.KFB.if_so (by decide) ?_
  refine wpAny_bind (PySem.W.check_bound_init T.b.ef.toExcCallFacts (KX _ _ hC) he rfl ?_)
  refine wpAny_bind (wpAny_pure (wpAny_pure ?_))
  refine ⟨plainId_quiet T.b.ef.init.plain _, codeAny_builtin T.b.ef.initEntry ?_⟩
  exact PySem.W.exc_init_tree (cls := .ref C) (t0 := t0) (dv := none) (c2 := .none) (c3 := .none) (b4 := .bool false) he hz fun h' k e' _ => hq h' _ k e'
/-- more facts of the class -/
structure XB (K : PySem.W.Frag) (C : Addr) (B newId initId : String) (tl : List Value) : Prop where
  T : OB K C B newId initId tl
  sup : PySem.W.ks_superIn K C C "__init__" = some (some (.builtin initId))
  mro : PySem.W.mroIn K C (.ref C) = some true
  sub : PySem.W.subIn K (.ref C) (.type B) = some true
/-- the init: super().__init__(..), then what tr reads -/
def spXG (C : Addr) (N : List Str) (tr : TS) : Sp := fun vs H Q _ => ∃ x vr, vs = .ref x :: vr ∧ vs.length = N.length ∧ H x = some (exo x C none) ∧ tr { nx := fun _ H' => Q .non H', rt := fun _ _ => False } (L2.start N vs) H
variable {P : Program} {w : World} {K : PySem.W.Frag} {mg : Str → Option Value} {base : Heap} {nm qual : Str} {params : Arguments} {body : List Stmt} {scope : Scope} {DC f : Addr} {fd : FuncData}
theorem fn_excG {CX : CXT} {k : Nat} {p0 p1 apos pos pos2 : Pos} {slf : Str} {fns : List Str} {ar : Arg} {e : Expr} {es : List Expr} {rest : List Stmt} {ta : TA} {tr : TS} (F : SupD P K nm qual params body scope DC f fd) (S : SupScope (slf :: fns) (slf :: fns) scope) (har : (params.posonlyargs ++ params.args).head? = some ar) (hslf : ar.arg = slf) (XF : XB K DC B newId initId tl)
    (hloc : scope.names.lookup slf = some .local)
    (hb : body = .Expr (.Call (.Attribute (.Call (.Name "super" p0) [] [] p1) "__init__" apos) (e :: es) [] pos) pos2 :: rest) (hboot : bootBuiltins "super" = some (.type "super"))
    (hpa : ∀ (cd : Value) (cc : Addr) (A : Around) (outer : List Env) (s : Shared) (H : Hp) (E : XK), PA (cxS CX P w K mg base (slf :: fns) qual scope f cd cc A outer s H E).nox (e :: es) ta)
    (hta : ∀ (vs : List V) (H : Hp), vs.length = (slf :: fns).length → ta (L2.start (slf :: fns) vs) H fun vs5 H5 => vs5.length ≤ 1000 ∧ H5 = H)
    (hrs : ∀ (cd : Value) (cc : Addr) (A : Around) (outer : List Env) (s : Shared) (H : Hp) (E : XK), PSs (cxS CX P w K mg base (slf :: fns) qual scope f cd cc A outer s H E).nox rest tr)
    (hst : ∀ env : Env, starEach (e :: es) env = (false, eval e env) :: starEach es env) (hpl : ∀ env : Env, (backTo pos (starEach es env)).any (·.1) = false)
    (hsw : ∀ env : Env, swapsWith (.Call (.Attribute (.Call (.Name "super" p0) [] [] p1) "__init__" apos) (e :: es) [] pos) none pos2.line env = pure false)
    (hev : ∀ env : Env, ∃ plS : Sem Bool, eval (.Call (.Attribute (.Call (.Name "super" p0) [] [] p1) "__init__" apos) (e :: es) [] pos) env = (do
      let ov ← attributeBase (.Call (.Name "super" p0) [] [] p1) "__init__" env (eval (.Call (.Name "super" p0) [] [] p1) env)
      standAt apos.atName
      let (f, first) ← holding [ov] (getMethod ov "__init__" plS)
      callWith pos f first (backTo pos (starEach (e :: es) env)) [])) :
    FnOk P w K mg base CX (k + 1) f fd (slf :: fns) (spXG DC (slf :: fns) tr) := by
  obtain ⟨oc, od, kV, doc, pm, an, cda, ct, osl, cc, rfl, lk, hcd, ⟨ccl, ccd, ccs, hcell⟩, ⟨kcl, kcd, kvs, kcs, file, tf, hcode, hvs, hfile⟩⟩ := F.ex
  have slen : ∀ vs H Q E, spXG DC (slf :: fns) tr vs H Q E → vs.length = (slf :: fns).length := fun vs H Q E h => by obtain ⟨_, _, _, hl, _⟩ := h; exact hl
  refine ⟨fun vs H Q E h => slen vs H Q E h, fun A outer s H args us vs Q E hr e0 hbind r hsp => ?_⟩
  have hlen := slen vs H Q E hsp
  have KB := e0.mod.kin
  have KX : K.In s.heap := e0.mod.kin.keeps fun b o e => (e0.bs b o e).1
  have lim : s.heap.NoLimit := e0.mod.nolimit.keeps fun b o e => (e0.bs b o e).1
  refine PySem.ks_codeAny_call_defAt (body := body) (binds := (slf :: fns).zip us) hr.depth (KX _ _ lk) rfl lim (PySem.W.codeRec_of KX hcd) rfl hbind S.noc (fun y hy => S.par y.1 (List.of_mem_zip (a := y.1) (b := y.2) hy).1) (fun h1 hns hk => ?_) S.co S.gen S.kind
  let X : Cx := cxS CX P w K mg base (slf :: fns) qual scope f (.ref cda) cc A outer s H E
  have I1 : Inv X [] (L2.start (slf :: fns) vs) H { s with heap := h1, toks := s.toks + ((slf :: fns).zip us).length } := inv_super S hr.hd e0 hlen r (KB _ _ hcell) rfl hns hk
  obtain ⟨x, vr, rfl, hvl, hx, hq⟩ := hsp
  have est0 : (L2.start (slf :: fns) (V.ref x :: vr))[0]? = some (some (V.ref x)) := rfl
  generalize { s with heap := h1, toks := s.toks + ((slf :: fns).zip us).length } = s1 at I1 ⊢
  have KX1 : K.In s1.heap := I1.kIn
  obtain ⟨t0, hox⟩ := exo_at I1.hok hx
  obtain ⟨plS, hev1⟩ := hev (PySem.W.ksEnv qual scope s.heap.objs.size f (.ref cda) cc)
  rw [hb]
  refine PySem.ks_wpAt_execs_cons (PySem.ks_wpAt_Expr_any (PySem.ks_wpAt_MethodCall (pl := plS) ?_ hev1) I1.quiet (hsw _))
  obtain ⟨hh, gg, dd, tt, oo⟩ := s1
  refine PySem.ks_wpAt_super_base S.sup S.cls (by decide) rfl (KX1 _ _ lk) rfl har rfl (KX1 _ _ hcode) rfl hvs hfile F.top ?_
  obtain ⟨mb, hb1, hb2⟩ := I1.mod.blt
  refine PySem.W.ks_loadName_global S.kind S.sup (Calls.loadGlobal_builtin (env := PySem.W.ksEnv qual scope s.heap.objs.size f (.ref cda) cc) (I1.mod.glob.keeps I1.bk) (PySem.W.mg_none_of KB e0.mod.glob F.sup) (hb1.keeps I1.bk) ((hb2 "super" (by decide)).trans hboot) ⟨rfl, ?_⟩)
  refine wpAny_loadName_free S.kind S.cls rfl ⟨_, KX1 _ _ hcell, rfl⟩ ?_
  obtain ⟨ml, hn1, hl1⟩ := I1.loc
  obtain ⟨u0, ru0, lk0⟩ := hl1 0 slf (.ref x) rfl est0 (.inl hloc)
  have hml : ml slf = some (.ref x) := by
    have e0 : u0 = Value.ref x := ru0
    rw [e0] at lk0
    rcases lk0 with ⟨_, z⟩ | ⟨z, _⟩
    · exact z
    · have z1 : scope.names.lookup slf = some .cell ∨ scope.names.lookup slf = some .free := z
      rw [hloc] at z1
      rcases z1 with z1 | z1 <;> cases z1
  rw [hslf]
  refine wpAny_loadName_local S.kind hloc hn1 hml ?_
  obtain ⟨cdD, hcD⟩ := F.cls
  obtain ⟨oD, hD1, hD2⟩ : ∃ oD, hh.get? DC = some oD ∧ oD.data = .cls cdD := by
    unfold PySem.W.clsIn at hcD
    split at hcD
    · rename_i ho
      cases hcD
      exact ⟨_, KX1 _ _ ho, rfl⟩
    · cases hcD
  refine PySem.ks_wpAny_isType_cls hD1 hD2 ⟨rfl, ?_⟩
  refine PySem.ks_wpAny_call_super hD1 hD2 hox rfl (fun cz ez => by cases ez) (PySem.W.looks_mroIn KX1 XF.mro) (fun h2 hso hk2 => ?_)
  have I2 : Inv X [] (L2.start (slf :: fns) (V.ref x :: vr)) H ⟨h2, gg, dd, tt, oo⟩ := I1.kept (t' := tt) hk2
  have KX2 : K.In h2 := I2.kIn
  have hal := XF.sup
  unfold PySem.W.ks_superIn at hal
  rw [hcD] at hal
  have hxC : x ≠ DC := fun z => by
    rw [z] at hox
    rw [hox] at hD1
    cases hD1
    cases hD2
  have hox2 := hk2 _ _ hox
  have hI : PySem.W.Looks (model P w) h2 (isInstance (.ref x) (.type B)) true := by
    have IA : PySem.W.InstAt h2 x _ DC none := ⟨hox2, rfl, rfl, trivial⟩
    exact IA.type.andThen (PySem.W.looks_subIn KX2 XF.sub)
  refine PySem.W.kxs_getMethod XF.T.b.kx hso (PySem.W.looks_opaque KX2 F.op) (l₀ := cdD.mro) ?_ rfl KX2 hal hI hxC (by decide) ?_
  · exact fun A Q E s k q => wpAny_bind ((PySem.W.looks_clsIn KX2 hcD) A _ E s k (wpAny_pure q))
  have I3 : Inv X [] (L2.start (slf :: fns) (V.ref x :: vr)) H ⟨h2.push (PySem.W.kxs_mw initId x), gg, dd, tt + 1, oo⟩ := I2.kept (t' := tt + 1) (fun b o e => Heap.get?_push_of_some _ e)
  have hbm : (h2.push (PySem.W.kxs_mw initId x)).get? h2.objs.size = some (PySem.W.kxs_mw initId x) := Heap.get?_push_at rfl rfl
  have I4 := I3.pinned (fp := [h2.objs.size]) (fun b hb => by
    have eb : b = h2.objs.size := by simpa using hb
    subst eb
    exact I2.fpOk (Nat.le_refl _) (I2.hok.fresh (Nat.le_refl _))) (fun b hb => by
    have eb : b = h2.objs.size := by simpa using hb
    subst eb
    exact ⟨_, hbm, fun v z => by cases z⟩)
  show wpAny (model P w) X.A (callWith pos (.ref h2.objs.size) [] (backTo pos (starEach (e :: es) X.env)) []) _ _ _
  have pa : PA X.nox (e :: es) ta := hpa _ _ _ _ _ _ _
  rw [hst X.env]
  refine PySem.W.kxs_callWith (i := initId) (x := x) (by show (false || (backTo pos (starEach es X.env)).any (·.1)) = false; rw [hpl]; rfl) ?_
  have rdA := hta (V.ref x :: vr) H hvl
  have run2 := pa.run pos _ _ (L2.start (slf :: fns) (V.ref x :: vr)) H _ (I4.wish _) rdA
  rw [hst X.nox.env] at run2
  refine Calls.evalArgs_plain (wpAny_mono run2 (fun us5 s5 q5 => ?_) (fun _ _ z => z.elim))
  obtain ⟨vs5, H5, I5, r5, hl5a, eH5⟩ := q5
  subst eH5
  have I5 : Inv X _ (L2.start (slf :: fns) (V.ref x :: vr)) H5 s5 := I5.unwish
  have hb5 : s5.heap.get? h2.objs.size = some (PySem.W.kxs_mw initId x) := (I5.pin (h2.objs.size, _) (List.mem_append_right _ (List.mem_append_right _ (mem_pinsAt (List.mem_cons_self) hbm)))).1
  refine ⟨hb5, ?_⟩
  show wpAny (model P w) X.A (call (.ref h2.objs.size) ([] ++ us5)) _ _ s5
  obtain ⟨t5, hox5⟩ := exo_at I5.hok hx
  obtain ⟨h5, g5, d5, tk5, os5⟩ := s5
  have hl5 : us5.length ≤ sizeLine := by rw [← r5.length, sizeLine_eq]; omega
  refine mw_callB XF.T I5.kIn hox5 hb5 hl5 fun h6 t6 k6 hx6 => ?_
  have J := I5.write (t' := tk5) (x := x) (e := x) (o := exo x DC none) (by rw [hx]; exact True.intro) (.inl rfl) k6 ⟨_, hx6⟩ (exo_ok hx6)
  have eu : upd H5 x (exo x DC none) = H5 := by
    funext b
    by_cases hb : b = x
    · rw [hb, upd_same, hx]
    · rw [upd_ne hb]
  rw [eu] at J
  have ps : PSs X.nox rest tr := hrs _ _ _ _ _ _ _
  have rd := hq
  refine PySem.wpAt_of_wpAny (wpAny_mono (ps.nox.run _ _ _ H5 _ J rd) (fun fl s7 h7 => ?_) (fun _ _ z => z))
  cases fl with
  | next => obtain ⟨σ7, H7, I7, q7⟩ := h7; exact ⟨.non, H7, I7.os, I7.bare, I7.base, I7.hok, rfl, q7⟩
  | ret u => obtain ⟨_, _, _, _, _, z⟩ := h7; exact z.elim
  | brk => obtain ⟨_, _, _, z⟩ := h7; exact z.elim
  | cont => obtain ⟨_, _, _, z⟩ := h7; exact z.elim
end
end Ly
set_option Elab.async false
set_option linter.all false
set_option maxRecDepth 100000
set_option maxHeartbeats 2000000
/-! Ly19: an own exception's class called, with names, too: it stays as a value. -/
namespace Ly
open PySem PySem.HandSPX PySem.Builtin PySem.Builtin.ObjectAttr
section
variable {M : Model} {prog : Program} {w : World} {A : Around} {E : Value → Shared → Prop} {R : Result → Shared → Prop} {h : Heap} {g : Array GenState} {d : Drawn} {t : Nat} {os : OsState}
variable {nm q : Str} {C N : Addr} {bs bm bmB : List Value} {hdct : Bool} {sn : List Str} {sub : List Value} {ab : Bool} {col : Option Bool} {dd : Option Addr} {k0 k1 k2 k3 k5 : Option Value} {B newId initId : String}
theorem lyCheckNewK (F : ExcBaseFacts B newId initId bm) {rest : List Value} {kws : List (Str × Value)} {Q : Unit → Shared → Prop}
    (hC : h.get? C = some (excClassObj nm q C N bs bm hdct sn sub ab col dd k0 k1 k2 k3 k5 newId)) (hq : Q () ⟨h, g, d, t, os⟩) : wpAny M A (checkBuiltinCall newId ⟨.ref C :: rest, kws⟩) Q E ⟨h, g, d, t, os⟩ := by
  have hcont : (Value.ref C :: bm).contains (.type B) = true := by rw [List.contains_cons, F.hasB, Bool.or_true]
  have hstar := F.noStar
  simp only [checkBuiltinCall, F.newKind, F.newSplit, F.newRow]
  repeat (first | refine wpAny_loadPart_at hC ?_ | (refine wpAny_isSubtype_exc hC ?_; rw [hcont]) | refine wpAny_staticBase_exc hC ?_ | refine wpAny_madeBy_exc hC ?_ | simp only [bne_self_eq_false, Bool.false_eq_true, if_false] | wp_step)
  exact hq
theorem lyNewK (F : ExcBaseFacts B newId initId bm) {rest : List Value} {kws : List (Str × Value)}
    (hC : h.get? C = some (excClassObj nm q C N bs bm hdct sn sub ab col dd k0 k1 k2 k3 k5 newId))
    (hq : R (.ok (.ret (.ref (h.objs.size + 1)))) ⟨(h.push { cls := .type "tuple", data := .seq rest.toArray }).push
      { cls := .ref C, data := .fields #[.ref h.objs.size, .none, .none, .none, .bool false, .none] }, g, d, t, os⟩) (hrest : rest.length ≤ sizeLine) :
    codeAny (model prog w) A (.builtin newId ⟨.ref C :: rest, kws⟩) R ⟨h, g, d, t, os⟩ := by
  have hends := F.ends
  have hcB : (Value.ref C :: bm).contains (.type B) = true := by rw [List.contains_cons, F.hasB, Bool.or_true]
  have hcA : (Value.ref C :: bm).contains (.type "AttributeError") = false := by rw [List.contains_cons, F.noAttr]; rfl
  have hcN : (Value.ref C :: bm).contains (.type "NameError") = false := by rw [List.contains_cons, F.noName]; rfl
  refine codeAny_builtinAt F.entry ?_
  unfold PySem.Builtin.«BaseException.__new__»
  refine wpAt_bind ?_
  show wpAt _ _ _ (stack >>= _) _ _ _
  refine wpAt_bind (wpAt_stack fun p below => wpAt_of_wpAny ?_)
  wp_walk
  refine wpAt_of_wpAny ?_
  rw [F.owner]
  repeat (first | with_reducible refine wpAny_madeHere_exc F.canon hC ?_ | with_reducible refine wpAny_loadPart_at hC ?_ | (with_reducible refine wpAny_isSubtype_exc hC ?_; first | rw [hcB] | rw [hcA] | rw [hcN]) | wp_step)
  show R _ _
  rw [Heap.size_push]
  exact hq
theorem lyTypeCallK (F : ExcBaseFacts B newId initId bm) {rest : List Value} {kws : List (Str × Value)} {fI : Addr} {Q : Fin → Shared → Prop}
    (hC : h.get? C = some (excClassObj nm q C N bs bm hdct sn sub ab col dd k0 k1 k2 k3 k5 newId))
    (hi : W.Looks (model prog w) h (typeLookup (.ref C) "__init__") (some (.ref fI))) (hb : ∀ self, W.Looks (model prog w) h (bindSpecial (.ref fI) self) (.ref fI, [self])) (hrest : rest.length ≤ sizeLine)
    (hq : codeAny (model prog w) A (.call (.ref fI) ⟨.ref (h.objs.size + 1) :: rest, kws⟩)
      (fun r s' => match r with | .ok (.ret v) => v = .none ∧ Q (.done (.ret (.ref (h.objs.size + 1)))) s' | .ok _ => False | .error e => E e s')
      ⟨(h.push (W.kdv_tup rest)).push (excO C h.objs.size), g, d, t, os⟩) :
    wpAny (model prog w) A (PySem.Builtin.«type.__call__» ⟨.ref C :: rest, kws⟩) Q E ⟨h, g, d, t, os⟩ := by
  repeat (first | with_reducible refine wpAny_loadPart_at hC ?_ | with_reducible refine wpAny_madeBy_exc hC ?_ | wp_step)
  refine codeAny_call_builtin_code (Code.quiet_builtin _ F.quiet) (lyCheckNewK F hC ?_)
  refine lyNewK F hC ?_ hrest
  show wpAny _ _ _ _ _ _
  have k : ∀ b o, h.get? b = some o → ((h.push (W.kdv_tup rest)).push (excO C h.objs.size)).get? b = some o := fun b o e => Heap.get?_push_of_some _ (Heap.get?_push_of_some _ e)
  have hC₁ := k _ _ hC
  have hget : ((h.push (W.kdv_tup rest)).push (excO C h.objs.size)).get? (h.objs.size + 1) = some (excO C h.objs.size) := by heap_get
  have hcC : (Value.ref C :: bm).contains (.ref C) = true := by simp
  have i1 := hi.keeps k
  have b1 := (hb (.ref (h.objs.size + 1))).keeps k
  unfold isInstance
  repeat (first | with_reducible refine wpAny_loadPart_at hget ?_ | (with_reducible refine wpAny_isSubtype_exc hC₁ ?_; rw [hcC]) | wp_step)
  show wpAny _ _ (typeLookup (.ref C) _) _ _ _
  refine i1.at ?_
  refine wpAny_holding (wpAny_bind (b1.at ?_))
  refine wpAny_bind (wpAny_call (codeAny_mono hq fun r s' z => ?_))
  rcases r with e | (v | _ | _ | _) <;> first | exact z | exact z.elim | skip
  obtain ⟨rfl, z⟩ := z
  first
    | exact wpAny_pure (wpAny_pure z)
    | (wp_walk; exact z)
theorem lyCallK (F : ExcBaseFacts B newId initId bm) {rest : List Value} {kws : List (Str × Value)} {fI : Addr}
    (hC : h.get? C = some (excClassObj nm q C N bs bm hdct sn sub ab col dd k0 k1 k2 k3 k5 newId))
    (hi : W.Looks (model prog w) h (typeLookup (.ref C) "__init__") (some (.ref fI))) (hb : ∀ self, W.Looks (model prog w) h (bindSpecial (.ref fI) self) (.ref fI, [self])) (hrest : rest.length ≤ sizeLine)
    (hq : codeAny (model prog w) (A.under (.builtin "type.__call__" ⟨.ref C :: rest, kws⟩)) (.call (.ref fI) ⟨.ref (h.objs.size + 1) :: rest, kws⟩) (W.InitBack (h.objs.size + 1) R)
      ⟨(h.push (W.kdv_tup rest)).push (excO C h.objs.size), g, d, t, os⟩) :
    codeAny (model prog w) A (.call (.ref C) ⟨rest, kws⟩) R ⟨h, g, d, t, os⟩ := by
  have f1 := tc_lookup
  have f2 := tc_bind (.ref C)
  have hTy : (⟨h, g, d, t, os⟩ : Shared).TypeIs (.ref C) "type" := ⟨_, hC, rfl⟩
  refine codeAny_of_tree ?_
  show wpAny _ _ (callAny (.ref C) _) _ _ _
  repeat (any_goals (first | assumption | with_reducible refine wpAny_loadPart_at hC ?_ | wp_step))
  refine ⟨rfl, ?_⟩
  refine codeAny_call_builtin_at (Code.quiet_builtin _ (by decide +kernel)) entry_typeCall (wpAny_check_type_call_sub hC (lyTypeCallK F hC hi hb hrest ?_))
  refine codeAny_mono hq fun r s' z => ?_
  rcases r with e | (v | _ | _ | _) <;> exact z
end
end Ly
set_option Elab.async false
set_option linter.all false
set_option maxRecDepth 100000
set_option maxHeartbeats 2000000
/-! Ly20: own exceptions as values: made. -/
namespace Ly
open PySem PySem.Spec L2 PyProof.Rows
open Lx (Le)
/-- C(..): the exception stays -/
def tErrK (C : Addr) (n m : Nat) (sp : Sp) (gV : List V → List V → List V) (E : XK) (t tk : TA) : TE := fun σ H Q => t σ H fun vs H1 => tk σ H1 fun zs H2 => vs.length = n ∧ zs.length = m ∧ ∀ a, H2 a = none →
  sp (gV (.ref a :: vs) zs) (upd H2 a (exo a C none)) (fun v H3 => v = .non ∧ Q (.ref a) H3) E
section
variable {B newId initId : String} {tl : List Value} {X : Cx} {CX : CXT} {k n : Nat} {fI C : Addr} {fd : FuncData} {ps ks : List Str} {sp : Sp} {E : XK} {x : Str} {p pos : Pos} {e : Expr} {es : List Expr} {kws : List Keyword} {t tk : TA} {g : List Value → List Value → List Value} {gV : List V → List V → List V}
theorem run_errK {pins : List (Addr × Obj)} {σ : L2.St} {H : Hp} {s : Shared} {Q : VK} {us ws : List Value} {vs zs : List V} (T : OB X.K C B newId initId tl) (iC : PySem.W.findIn X.K (.ref C) "__init__" = some (some (.ref fI))) (tI : PySem.W.typeIn X.K (.ref fI) = some (.type "function"))
    (F : FnOk X.prog X.w X.K X.mg X.base CX k fI fd ps sp) (hr : Room (k + 1) X.A) (hb : KBn X.K fd ps (n + 1) ks g gV) (hx : Passes CX X E) (hn : n ≤ 1000)
    (I : Inv X pins σ H s) (r : Vals vs us) (rz : Vals zs ws) (l1 : vs.length = n) (l2 : zs.length = ks.length)
    (h : ∀ a, H a = none → sp (gV (.ref a :: vs) zs) (upd H a (exo a C none)) (fun v H2 => v = .non ∧ Q (.ref a) H2) E) :
    wpAny (model X.prog X.w) X.A (call (.ref C) us (ks.zip ws)) (EP X pins σ Q) X.xe s := by
  obtain ⟨nm, q, N, bs, sn, sub, ab, col, dd, k0, k1, k2, k3, k5, hC⟩ := T.cls
  obtain ⟨hp, gg, dr, tk, os⟩ := s
  have hsz : hp.objs.size ≤ hp.objs.size + 1 := Nat.le_succ _
  have hn0 : H (hp.objs.size + 1) = none := I.hok.fresh hsz
  have hq := h (hp.objs.size + 1) hn0
  have kk : ∀ b o, hp.get? b = some o → ((hp.push (PySem.W.kdv_tup us)).push (PySem.HandSPX.excO C hp.objs.size)).get? b = some o := fun b o e => Heap.get?_push_of_some _ (Heap.get?_push_of_some _ e)
  have hget : ((hp.push (PySem.W.kdv_tup us)).push (PySem.HandSPX.excO C hp.objs.size)).get? (hp.objs.size + 1) = some (PySem.HandSPX.excO C hp.objs.size) := by heap_get
  have I2 : Inv X pins σ (upd H (hp.objs.size + 1) (exo (hp.objs.size + 1) C none)) ⟨(hp.push (PySem.W.kdv_tup us)).push (PySem.HandSPX.excO C hp.objs.size), gg, dr, tk, os⟩ :=
    I.laid (t' := tk) (a := hp.objs.size + 1) (o := exo (hp.objs.size + 1) C none) (h' := (hp.push (PySem.W.kdv_tup us)).push (PySem.HandSPX.excO C hp.objs.size)) kk hsz (exo_ok hget)
  have r1 : Vals (V.ref (hp.objs.size + 1) :: vs) (Value.ref (hp.objs.size + 1) :: us) := .cons rfl r
  have r2 := hb.rel r1 rz
  have n1 : (Value.ref (hp.objs.size + 1) :: us).length = n + 1 := by rw [List.length_cons, ← r.length, l1]
  have hus : us.length ≤ sizeLine := by rw [← r.length, sizeLine_eq]; omega
  refine wpAny_call (lyCallK T.b.ef (I.kIn _ _ hC) (PySem.W.looks_findIn I.kIn iC) (fun self => PySem.W.bind_fn I.kIn self tI) hus
    (codeAny_mono (F.run _ X.stack _ _ ⟨Value.ref (hp.objs.size + 1) :: us, ks.zip ws⟩ (g (Value.ref (hp.objs.size + 1) :: us) ws) _ _ E (hr.make C us (ks.zip ws)) (I2.env0.make C us (ks.zip ws)) (hb.to _ (Value.ref (hp.objs.size + 1) :: us) ws I2.kIn n1 (rz.length.symm.trans l2)) r2 hq) fun r s' hq' => ?_))
  cases r with
  | error er => exact hx pins σ _ _ er s' I2 hq'
  | ok fl =>
    cases fl with
    | ret u =>
      obtain ⟨v, H', I3, rv, ev, q3⟩ := I2.after hq'
      subst ev
      exact ⟨rv, ⟨V.ref (hp.objs.size + 1), H', I3, rfl, q3⟩⟩
    | next => exact False.elim hq'
    | brk => exact False.elim hq'
    | cont => exact False.elim hq'
theorem pe_errK (T : OB X.K C B newId initId tl) (iC : PySem.W.findIn X.K (.ref C) "__init__" = some (some (.ref fI))) (tI : PySem.W.typeIn X.K (.ref fI) = some (.type "function"))
    (F : FnOk X.prog X.w X.K X.mg X.base CX k fI fd ps sp) (hr : Room (k + 1) X.A) (hb : KBn X.K fd ps 1 ks g gV) (hx : Passes CX X E) (hg : Gl X x) (hm : X.mg x = some (.ref C)) (hkw : PK X kws tk)
    (hall : (backToKw pos (keywordEach kws X.env)).all (·.1.isSome) = true := by rfl) (hks : (backToKw pos (keywordEach kws X.env)).filterMap (·.1) = ks := by rfl) (hdb : (x == ("__debug__" : Str)) = false := by decide)
    (hpl : ((backTo pos (starEach [] X.env)).any (·.1) || (backToKw pos (keywordEach kws X.env)).any (·.1.isNone)) = false := by rfl) :
    PE X (.Call (.Name x p) [] kws pos) (tErrK C 0 ks.length sp gV E tNil tk) := by
  refine ⟨fun pins s σ H Q I h => ?_⟩
  refine wpAny_Call_Name_kw (ld_glob I hg hm ?_ hdb)
  refine PySem.W.callWith_KW0 (h₀ := X.base) I.ok.mod.kin T.kC hall ?_ hpl
  refine thn (hkw.run pos pins s σ H _ I h) fun ws s2 ⟨zs, H2, I2, rz, l1, l2, q2⟩ => ⟨I2.kIn, ?_⟩
  rw [hks]
  exact run_errK (us := []) (vs := []) T iC tI F hr hb hx (by decide) I2 .nil rz rfl l2 q2
theorem pe_errP (T : OB X.K C B newId initId tl) (iC : PySem.W.findIn X.K (.ref C) "__init__" = some (some (.ref fI))) (tI : PySem.W.typeIn X.K (.ref fI) = some (.type "function"))
    (F : FnOk X.prog X.w X.K X.mg X.base CX k fI fd ps sp) (hr : Room (k + 1) X.A) (hb : Binds X.K fd ps []) (hps : ps.length = n + 1) (hn : n ≤ 1000) (hx : Passes CX X E) (hg : Gl X x) (hm : X.mg x = some (.ref C)) (ha : PA X (e :: es) t)
    (hdb : (x == ("__debug__" : Str)) = false := by decide) (he : starEach (e :: es) X.env = (false, eval e X.env) :: starEach es X.env := by rfl) (hpl : (backTo pos (starEach es X.env)).any (·.1) = false := by rfl) :
    PE X (.Call (.Name x p) (e :: es) [] pos) (tErrK C n 0 sp (fun vs _ => vs) E t tNil) := by
  refine ⟨fun pins s σ H Q I h => ?_⟩
  refine wpAny_Call_Name_kw (ld_glob I hg hm ?_ hdb)
  refine PySem.W.callWith_K (h₀ := X.base) I.ok.mod.kin T.kC (thn (ha.run pos pins s σ H _ I h) fun us s1 ⟨vs, H1, I1, r1, l1, l2, q1⟩ => ⟨I1.kIn, ?_⟩) he hpl
  have kb : KBn X.K fd ps (n + 1) [] (fun us _ => us) (fun vs _ => vs) := ⟨fun s us ws XK l1 l2 => by
    have e0 : ws = [] := List.length_eq_zero_iff.mp l2
    subst e0
    have := hb s us XK (by rw [List.append_nil, l1, hps])
    rw [List.append_nil] at this
    exact this, fun r1 _ => r1⟩
  exact run_errK (ks := []) (ws := []) (zs := []) T iC tI F hr kb hx hn I1 r1 .nil l1 rfl q1
end
end Ly
set_option Elab.async false
set_option linter.all false
set_option maxRecDepth 100000
set_option maxHeartbeats 2000000
/-! Ly21: own exceptions as values: made (as data), their fields, isinstance. -/
namespace Ly
open PySem PySem.Spec L2 PyProof.Rows He
open Lx (Le)
/-! ### fields -/
def tErrF (K : PySem.W.Frag) (n : Str) (te : TE) : TE := fun σ H Q => te σ H fun x H1 => ∃ (a C dx : Addr) (fs : List (Str × V)) (v : V), x = .ref a ∧ H1 a = some (exo a C (some dx)) ∧ H1 dx = some (exd dx fs) ∧ XfC K C ∧ PySem.W.findIn K (.ref C) n = some none ∧ fs.lookup n = some v ∧ Q v H1
theorem pe_errF {X : Cx} {e : Expr} {te : TE} {pos : Pos} {n : Str} (he : PE X e te) (hb : attributeBase e n X.env (eval e X.env) = eval e X.env := by rfl) : PE X (.Attribute e n pos) (tErrF X.K n te) := by
  refine ⟨fun pins s σ H Q I h => ?_⟩
  refine attr_of hb (thn (he.run pins s σ H _ I h) fun u s1 hh => ?_)
  obtain ⟨x, H1, I1, rx, a, C, dx, fs, v, ex, ea, ed, T, hno, l, q⟩ := hh
  subst ex
  obtain rfl : u = Value.ref a := rx
  obtain ⟨t1, ho⟩ := exo_at I1.hok ea
  obtain ⟨mA, hns, hr⟩ := exd_at I1.hok ed
  obtain ⟨od, ho2, hl⟩ := lookIn_ns hns
  obtain ⟨u, hu, ru⟩ := RelO.some_of (v := v) (o := mA n) (by rw [← l]; exact hr n)
  have J : PySem.W.InstAt s1.heap a _ C (some od) := ⟨ho, rfl, rfl, ho2⟩
  exact HandSPX.exc_get I1.kIn J T.ga T.gg T.exC (PySem.W.findObj_own T.hdC hno rfl (by rw [hl, hu])) (handed_of ru) ⟨v, H1, I1.tok _, ru, q⟩
/-! ### isinstance -/
def rIsV (K : PySem.W.Frag) : List V → Hp → VK → Prop := fun xs H Q => ∃ (a C : Addr) (d : Option Addr) (c : V) (cv : Value) (b : Bool), xs = [.ref a, c] ∧ H a = some (exo a C d) ∧ (∀ dx, d = some dx → ∃ fs, H dx = some (exd dx fs)) ∧ ExcC K C ∧ (∀ u, RelV c u → u = cv) ∧ PySem.W.kitOne K (.ref C) cv = some b ∧ Q (.bl b) H
theorem call_isV {X : Cx} : CallR X (.builtin "isinstance") (rIsV X.K) := by
  intro pins s σ H xs us Q I r h
  obtain ⟨a, C, d, c, cv, b, rfl, ea, hd, T, hcv, e, q⟩ := h
  obtain ⟨u1, u2, rfl, r1, r2⟩ := vals2 r
  cases r1
  have ec := hcv _ r2
  subst ec
  obtain ⟨t1, ho⟩ := exo_at I.hok ea
  have hcls : (PySem.W.clsIn X.K C).isSome = true := by
    obtain ⟨cd, hc, _⟩ := PySem.W.any_some T.hd
    rw [hc]; rfl
  cases d with
  | none =>
    have J : PySem.W.InstAt s.heap a _ C none := ⟨ho, rfl, rfl, trivial⟩
    exact PySem.W.kia_one (PySem.W.kitx_exc hcls T.hg T.hk T.hs T.ha T.hn T.ht T.hm) I.kIn J e (fun z => nomatch z) fun tk => ⟨.bl b, H, I.kept (t' := tk) fun _ _ z => z, rfl, q⟩
  | some dx =>
    obtain ⟨fs, ed⟩ := hd dx rfl
    obtain ⟨mA, hns, hr⟩ := exd_at I.hok ed
    obtain ⟨od, ho2, hl⟩ := lookIn_ns hns
    have J : PySem.W.InstAt s.heap a _ C (some od) := ⟨ho, rfl, rfl, ho2⟩
    exact PySem.W.kia_one (PySem.W.kitx_exc hcls T.hg T.hk T.hs T.ha T.hn T.ht T.hm) I.kIn J e (fun z => nomatch z) fun tk => ⟨.bl b, H, I.kept (t' := tk) fun _ _ z => z, rfl, q⟩
/-! ### made, no own init -/
theorem pe_err0 {X : Cx} {C : Addr} {bmB : List Value} {B newId initId : String} {x : Str} {p pos : Pos} (F : ExcBaseFacts B newId initId bmB) (q : PySem.W.excIn X.K C bmB newId = true) (gC : X.mg x = some (.ref C)) (kC : PySem.W.keepIn X.K (.ref C) = true) (hg : Gl X x)
    (hdb : (x == ("__debug__" : Str)) = false := by decide) : PE X (.Call (.Name x p) [] [] pos) (fun σ H Q => ∀ a, H a = none → Q (.ref a) (upd H a (exo a C none))) := by
  refine ⟨fun pins s σ H Q I h => ?_⟩
  refine wpAny_Call_Name_kw (ld_glob I hg gC ?_ hdb)
  refine PySem.W.callWith_K0 (first := []) I.kIn kC ?_
  show wpAny _ _ (call (.ref C) []) _ _ _
  obtain ⟨bm, N, nm, qn, bs, hdct, sn, sub, ab, col, dd, k0, k1, k2, k3, k5, mN, hC, hN, hni, T⟩ := exc_obj I.kIn q
  refine wpAny_call_exc_subT F T hC hN hni (fun h' a hm => ?_) (Nat.zero_le _)
  have hn : H a = none := I.hok.gone hm.new
  obtain ⟨t, ht, _, _⟩ := hm.there
  exact ⟨.ref a, upd H a (exo a C none), I.laidN hm.keeps hm.new hn (exo_ok ht), rfl, h a hn⟩
/-! ### as data -/
section
variable {K : PySem.W.Frag}
@[reducible] def dErr (cls : Str) (flds : List Str) (f : List Sl → W (List D)) : List Sl → W D := fun δ => (f δ).bind fun ds => W.need (ds.length = flds.length) (W.ret (.err cls (flds.zip ds).reverse))
theorem lay_err {c : Cg} {w : Wd} {s : S} {a dx : Addr} {cls : Str} {fs : List (Str × V)} {gs : List (Str × D)} (o : Ok K c w s) (ha : w.H a = none) (hd : w.H dx = none) (hne : dx ≠ a) (r : RepF K c w.al w.F fs gs) :
    ∃ w', w'.H = upd (upd w.H dx (exd dx fs)) a (exo a (ga K cls) (some dx)) ∧ Ok K c w' s ∧ Go c w w' ∧ Rep K c w'.al w'.F (.ref a) (.err cls gs) := by
  obtain ⟨o1, g1⟩ := o.lay (p := dx) (o := exd dx fs) hd (fun ps z => by have z' : HO.ext _ = HO.tbl ps := z; cases z')
  have ha1 : (w.lay dx (exd dx fs)).H a = none := by show upd w.H dx (exd dx fs) a = none; rw [upd_ne hne.symm]; exact ha
  obtain ⟨o2, g2⟩ := o1.lay (p := a) (o := exo a (ga K cls) (some dx)) ha1 (fun ps z => by have z' : HO.ext _ = HO.tbl ps := z; cases z')
  refine ⟨_, rfl, o2, g1.trans g2 o2, .err (dx := dx) (fs := fs) upd_same ?_ ((r.up g1.sub).up g2.sub)⟩
  show upd (upd w.F dx (exd dx fs)) a _ dx = _
  rw [upd_ne hne, upd_same]
abbrev sp1 (C : Addr) (slf f1 : Str) : Sp := spXG C [slf, f1] (tOstB C f1 (tVar 0) (tVar 1))
abbrev sp2 (C : Addr) (slf f1 f2 : Str) : Sp := spXG C [slf, f1, f2] (tSeq (tOstB C f1 (tVar 0) (tVar 1)) (tOstB C f2 (tVar 0) (tVar 2)))
theorem sp1_ok {C a : Addr} {slf f1 : Str} {v : V} {H1 : Hp} {Q : VK} {E : XK} (ha : H1 a = none) (h : ∀ dx, H1 dx = none → dx ≠ a → Q (.ref a) (upd (upd H1 dx (exd dx [(f1, v)])) a (exo a C (some dx)))) : sp1 C slf f1 [.ref a, v] (upd H1 a (exo a C none)) (fun u H3 => u = .non ∧ Q (.ref a) H3) E := by
  refine ⟨a, [v], rfl, rfl, upd_same, v, rfl, .ref a, rfl, a, rfl, .inl ⟨upd_same, fun dx hd hne => ⟨rfl, ?_⟩⟩⟩
  have hd1 : H1 dx = none := by rw [upd_ne hne] at hd; exact hd
  have e : upd (upd (upd H1 a (exo a C none)) dx (exd dx [(f1, v)])) a (exo a C (some dx)) = upd (upd H1 dx (exd dx [(f1, v)])) a (exo a C (some dx)) := by
    funext b
    by_cases e1 : b = a
    · rw [e1, upd_same, upd_same]
    · rw [upd_ne e1, upd_ne e1]
      by_cases e2 : b = dx
      · rw [e2, upd_same, upd_same]
      · rw [upd_ne e2, upd_ne e2, upd_ne e1]
  rw [e]
  exact h dx hd1 hne
theorem sp2_ok {C a : Addr} {slf f1 f2 : Str} {v u : V} {H1 : Hp} {Q : VK} {E : XK} (ha : H1 a = none) (h : ∀ dx, H1 dx = none → dx ≠ a → Q (.ref a) (upd (upd H1 dx (exd dx [(f2, u), (f1, v)])) a (exo a C (some dx)))) : sp2 C slf f1 f2 [.ref a, v, u] (upd H1 a (exo a C none)) (fun u H3 => u = .non ∧ Q (.ref a) H3) E := by
  refine ⟨a, [v, u], rfl, rfl, upd_same, v, rfl, .ref a, rfl, a, rfl, .inl ⟨upd_same, fun dx hd hne => ?_⟩⟩
  have hd1 : H1 dx = none := by rw [upd_ne hne] at hd; exact hd
  refine ⟨u, rfl, .ref a, rfl, a, rfl, .inr ⟨dx, [(f1, v)], upd_same, by rw [upd_ne hne, upd_same], show 1 ≤ 900 by decide, rfl, ?_⟩⟩
  have e : upd (upd (upd (upd H1 a (exo a C none)) dx (exd dx [(f1, v)])) a (exo a C (some dx))) dx (exd dx [(f2, u), (f1, v)]) = upd (upd H1 dx (exd dx [(f2, u), (f1, v)])) a (exo a C (some dx)) := by
    funext b
    by_cases e2 : b = dx
    · rw [e2, upd_same, upd_ne hne, upd_same]
    · rw [upd_ne e2]
      by_cases e1 : b = a
      · rw [e1, upd_same, upd_same]
      · rw [upd_ne e1, upd_ne e1, upd_ne e2, upd_ne e2, upd_ne e1]
  rw [e]
  exact h dx hd1 hne
theorem le_err1 {cls slf f1 : Str} {t : XK → TA} {f : List Sl → W (List D)} (ha : LA K t f) : LE K (fun E => tErrK (ga K cls) 1 0 (sp1 (ga K cls) slf f1) (fun vs _ => vs) E (t E) tNil) (dErr cls [f1] f) := fun c w s σ δ Q E o sl h =>
  ha c w s σ δ _ E o sl (h.bind.mono fun ds w1 s1 g1 o1 p vs r1 => by
    match ds, vs, r1, p with
    | [d], [v], .cons rv .nil, p =>
      refine ⟨rfl, rfl, fun a hn => sp1_ok hn fun dx hd hne => ?_⟩
      obtain ⟨w2, e2, o2, g2, r2⟩ := lay_err (cls := cls) o1 hn hd hne (.cons (x := f1) rv .nil)
      rw [← e2]
      exact p.2 w2 g2 o2 (.ref a) r2
    | [], _, _, p => exact absurd p.1 (by simp)
    | _ :: _ :: _, _, _, p => exact absurd p.1 (by simp))
theorem le_err1K {cls slf f1 : Str} {t : XK → TA} {f : List Sl → W (List D)} (ha : LA K t f) : LE K (fun E => tErrK (ga K cls) 0 1 (sp1 (ga K cls) slf f1) (fun vs zs => vs ++ pick [0] zs) E tNil (t E)) (dErr cls [f1] f) := fun c w s σ δ Q E o sl h =>
  ha c w s σ δ _ E o sl (h.bind.mono fun ds w1 s1 g1 o1 p vs r1 => by
    match ds, vs, r1, p with
    | [d], [v], .cons rv .nil, p =>
      refine ⟨rfl, rfl, fun a hn => sp1_ok hn fun dx hd hne => ?_⟩
      obtain ⟨w2, e2, o2, g2, r2⟩ := lay_err (cls := cls) o1 hn hd hne (.cons (x := f1) rv .nil)
      rw [← e2]
      exact p.2 w2 g2 o2 (.ref a) r2
    | [], _, _, p => exact absurd p.1 (by simp)
    | _ :: _ :: _, _, _, p => exact absurd p.1 (by simp))
theorem le_err2 {cls slf f1 f2 : Str} {t : XK → TA} {f : List Sl → W (List D)} (ha : LA K t f) : LE K (fun E => tErrK (ga K cls) 2 0 (sp2 (ga K cls) slf f1 f2) (fun vs _ => vs) E (t E) tNil) (dErr cls [f1, f2] f) := fun c w s σ δ Q E o sl h =>
  ha c w s σ δ _ E o sl (h.bind.mono fun ds w1 s1 g1 o1 p vs r1 => by
    match ds, vs, r1, p with
    | [d, d2], [v, u], .cons rv (.cons ru .nil), p =>
      refine ⟨rfl, rfl, fun a hn => sp2_ok hn fun dx hd hne => ?_⟩
      obtain ⟨w2, e2, o2, g2, r2⟩ := lay_err (cls := cls) o1 hn hd hne (.cons (x := f2) ru (.cons (x := f1) rv .nil))
      rw [← e2]
      exact p.2 w2 g2 o2 (.ref a) r2
    | [], _, _, p => exact absurd p.1 (by simp)
    | [_], _, _, p => exact absurd p.1 (by simp)
    | _ :: _ :: _ :: _, _, _, p => exact absurd p.1 (by simp))
/-- the same by names; the second one is named first -/
@[reducible] def dErrR (cls : Str) (flds : List Str) (f : List Sl → W (List D)) : List Sl → W D := fun δ => (f δ).bind fun ds => W.need (ds.length = flds.length) (W.ret (.err cls (flds.zip ds)))
theorem le_err2K {cls slf f1 f2 : Str} {t : XK → TA} {f : List Sl → W (List D)} (ha : LA K t f) : LE K (fun E => tErrK (ga K cls) 0 2 (sp2 (ga K cls) slf f1 f2) (fun vs zs => vs ++ pick [1, 0] zs) E tNil (t E)) (dErrR cls [f2, f1] f) := fun c w s σ δ Q E o sl h =>
  ha c w s σ δ _ E o sl (h.bind.mono fun ds w1 s1 g1 o1 p vs r1 => by
    match ds, vs, r1, p with
    | [d2, d], [u, v], .cons ru (.cons rv .nil), p =>
      refine ⟨rfl, rfl, fun a hn => sp2_ok hn fun dx hd hne => ?_⟩
      obtain ⟨w2, e2, o2, g2, r2⟩ := lay_err (cls := cls) o1 hn hd hne (.cons (x := f2) ru (.cons (x := f1) rv .nil))
      rw [← e2]
      exact p.2 w2 g2 o2 (.ref a) r2
    | [], _, _, p => exact absurd p.1 (by simp)
    | [_], _, _, p => exact absurd p.1 (by simp)
    | _ :: _ :: _ :: _, _, _, p => exact absurd p.1 (by simp))
theorem le_err0 {cls : Str} : LE K (fun _ => fun σ H Q => ∀ a, H a = none → Q (.ref a) (upd H a (exo a (ga K cls) none))) (dC (.err cls [])) := fun c w s σ δ Q E o sl h a hn => by
  obtain ⟨o1, g1⟩ := o.lay (p := a) (o := exo a (ga K cls) none) hn (fun ps z => by have z' : HO.ext _ = HO.tbl ps := z; cases z')
  exact h _ g1 o1 (.ref a) (.err0 upd_same)
/-- a field of an exception; tb: what is known of the classes -/
@[reducible] def dErrF (tb : List (Str × Str)) (n : Str) (f : List Sl → W D) : List Sl → W D := fun δ => (f δ).bind fun x => match x with
  | .err cl gs => W.need ((cl, n) ∈ tb) (match gs.lookup n with | some d => W.ret d | none => W.stuck)
  | _ => W.stuck
theorem le_errF {tb : List (Str × Str)} {n : Str} {te : XK → TE} {f : List Sl → W D} (ht : ∀ p ∈ tb, XfC K (ga K p.1) ∧ PySem.W.findIn K (.ref (ga K p.1)) p.2 = some none) (he : LE K te f) : LE K (fun E => tErrF K n (te E)) (dErrF tb n f) := fun c w s σ δ Q E o sl h =>
  he c w s σ δ _ E o sl (h.bind.mono fun d w1 s1 g1 o1 p v r1 => by
    cases r1 with
    | @err a dx cl fs gs hf hd rf =>
      obtain ⟨p1, p2⟩ := p
      obtain ⟨t1, t2⟩ := ht _ p1
      cases e : gs.lookup n with
      | none => rw [e] at p2; exact p2.elim
      | some d =>
        rw [e] at p2
        obtain ⟨u, hu, ru⟩ := rf.look e
        exact ⟨a, _, dx, fs, u, rfl, o1.fro _ _ hf, o1.fro _ _ hd, t1, t2, hu, p2 _ (Go.refl ..) o1 u ru⟩
    | @err0 a cl hf => exact p.2.elim
    | _ => exact p.elim)
/-- isinstance(e, C) of exceptions -/
@[reducible] def dIsV (tb : List (Str × Bool)) (x : D) : W D := match x with
  | .err cl _ => (match tb.lookup cl with | some b => W.ret (.bl b) | none => W.stuck)
  | _ => W.stuck
theorem look_mem' {α : Type} {a : Str} {o : α} : ∀ {l : List (Str × α)}, l.lookup a = some o → (a, o) ∈ l
  | [], h => by cases h
  | (b, u) :: r, h => by
    rw [List.lookup_cons] at h
    cases q : (a == b) with
    | true => rw [q] at h; cases h; rw [eq_of_beq q]; exact List.mem_cons_self
    | false => rw [q] at h; exact List.mem_cons_of_mem _ (look_mem' h)
theorem le_isV {cv : V} {u : Value} {tb : List (Str × Bool)} {ta : XK → TE} {fa : List Sl → W D} (hc : ∀ z, RelV cv z → z = u) (ht : ∀ p ∈ tb, ExcC K (ga K p.1) ∧ PySem.W.kitOne K (.ref (ga K p.1)) u = some p.2) (ha : LE K ta fa) :
    LE K (fun E => tCB (rIsV K) (tCons (ta E) (tCons (tC cv) tNil))) (dOp1 (dIsV tb) fa) := fun c w s σ δ Q E o sl h =>
  ha c w s σ δ _ E o sl (h.bind.mono fun d w1 s1 g1 o1 p v r1 => by
    cases r1 with
    | @err a dx cl fs gs hf hd rf =>
      have p : Den K c (match tb.lookup cl with | some b => W.ret (D.bl b) | none => W.stuck) w1 s1 (qV K c Q) (xE K c E) := p
      cases e : tb.lookup cl with
      | none => rw [e] at p; exact p.elim
      | some b =>
        rw [e] at p
        obtain ⟨t1, t2⟩ := ht _ (look_mem' e)
        exact ⟨a, _, some dx, cv, u, b, rfl, o1.fro _ _ hf, fun z ez => by cases ez; exact ⟨fs, o1.fro _ _ hd⟩, t1, hc, t2, p _ (Go.refl ..) o1 _ (.bl _)⟩
    | @err0 a cl hf =>
      have p : Den K c (match tb.lookup cl with | some b => W.ret (D.bl b) | none => W.stuck) w1 s1 (qV K c Q) (xE K c E) := p
      cases e : tb.lookup cl with
      | none => rw [e] at p; exact p.elim
      | some b =>
        rw [e] at p
        obtain ⟨t1, t2⟩ := ht _ (look_mem' e)
        exact ⟨a, _, none, cv, u, b, rfl, o1.fro _ _ hf, (fun z ez => by cases ez), t1, hc, t2, p _ (Go.refl ..) o1 _ (.bl _)⟩
    | _ => exact p.elim)
end
end Ly
set_option Elab.async false
set_option linter.all false
set_option maxRecDepth 100000
set_option maxHeartbeats 2000000
/-! Ly22: repr of data with dicts in it. -/
namespace Ly
open PySem PySem.Spec L2 PyProof.Rows He
open Lx (Le)
def keyP : Key → PyData
  | .inl i => .int i
  | .inr x => .str x
mutual
inductive Dq (H : Hp) : V → PyData → Prop
  | non : Dq H .non .none
  | bl (b : Bool) : Dq H (.bl b) (.bool b)
  | int (i : Int) : Dq H (.int i) (.int i)
  | str (x : Str) : Dq H (.str x) (.str x)
  | lst {a : Addr} {xs : List V} {ds : List PyData} : H a = some (.lst xs) → DqAll H xs ds → Dq H (.ref a) (.list ds)
  | tup {a : Addr} {xs : List V} {ds : List PyData} : H a = some (.tup xs) → DqAll H xs ds → Dq H (.ref a) (.tuple ds)
  | dct {a : Addr} {kvs : List (Key × V)} {ds : List (PyData × PyData)} : H a = some (.dK kvs) → DqK H kvs ds → Dq H (.ref a) (.dict ds)
inductive DqAll (H : Hp) : List V → List PyData → Prop
  | nil : DqAll H [] []
  | cons {v : V} {vs : List V} {d : PyData} {ds : List PyData} : Dq H v d → DqAll H vs ds → DqAll H (v :: vs) (d :: ds)
inductive DqK (H : Hp) : List (Key × V) → List (PyData × PyData) → Prop
  | nil : DqK H [] []
  | cons {k : Key} {v : V} {vs : List (Key × V)} {d : PyData} {ds : List (PyData × PyData)} : Dq H v d → DqK H vs ds → DqK H ((k, v) :: vs) ((keyP k, d) :: ds)
end
section
variable {X : Cx} {pins : List (Addr × Obj)} {σ : L2.St} {H : Hp} {s : Shared}
/-- the module table is never tracked -/
theorem sm_none (I : Inv X pins σ H s) (h : ∃ o, X.base.get? sysModules = some o) : H sysModules = none := by
  obtain ⟨o, e⟩ := h
  obtain ⟨e1, e2⟩ := I.ok.bs _ _ e
  exact I.base.free _ _ e1 e2 (I.ok.noex _ _ e)
mutual
theorem Dq.reads (I : Inv X pins σ H s) (h1 : H sysModules = none) : ∀ {v : V} {d : PyData} {u : Value}, Dq H v d → RelV v u → ∃ as, Reads s.heap u d as ∧ sysModules ∉ as
  | _, _, _, .non, r => by cases r; exact ⟨_, .none, by simp⟩
  | _, _, _, .bl b, r => by cases r; exact ⟨_, .bool b, by simp⟩
  | _, _, _, .int i, r => by obtain ⟨t, rfl⟩ := r; exact ⟨_, .int i t, by simp⟩
  | _, _, _, .str x, r => by obtain ⟨t, rfl⟩ := r; exact ⟨_, .str x t, by simp⟩
  | _, _, _, .lst (a := a) e q, r => by
    cases r
    obtain ⟨_, its, n, rv, ho⟩ := I.hok a _ e
    obtain ⟨as, rd, na⟩ := DqAll.reads I h1 q rv
    refine ⟨_, .list ho rfl rfl (by simpa using rd), fun z => ?_⟩
    rcases List.mem_cons.mp z with z | z
    · rw [← z, h1] at e; cases e
    · exact na z
  | _, _, _, .tup (a := a) e q, r => by
    cases r
    obtain ⟨_, its, rv, o, ho, hc, n, hd⟩ := I.hok a _ e
    obtain ⟨as, rd, na⟩ := DqAll.reads I h1 q rv
    exact ⟨_, .tuple ho hc hd (by simpa using rd), na⟩
  | _, _, _, .dct (a := a) e q, r => by
    cases r
    obtain ⟨_, _, vs, kv, o, es, ep, ho, hx, hd, _, hp, _⟩ := I.hok a _ e
    obtain ⟨as, bs, ra, rb, na, nb⟩ := DqK.reads I h1 q kv hp
    refine ⟨_, .dict ho hx.1 hd ra rb, fun z => ?_⟩
    rcases List.mem_append.mp z with z | z
    · rcases List.mem_cons.mp z with z | z
      · rw [← z, h1] at e; cases e
      · exact na z
    · exact nb z
theorem DqAll.reads (I : Inv X pins σ H s) (h1 : H sysModules = none) : ∀ {vs : List V} {ds : List PyData} {us : List Value}, DqAll H vs ds → Vals vs us → ∃ as, ReadsAll s.heap us ds as ∧ sysModules ∉ as
  | _, _, _, .nil, r => by cases r; exact ⟨_, .nil, by simp⟩
  | _, _, _, .cons a b, r => by
    cases r with
    | cons r1 r2 =>
      obtain ⟨as, ra, na⟩ := Dq.reads I h1 a r1
      obtain ⟨bs, rb, nb⟩ := DqAll.reads I h1 b r2
      exact ⟨_, .cons ra rb, fun z => (List.mem_append.mp z).elim na nb⟩
theorem DqK.reads (I : Inv X pins σ H s) (h1 : H sysModules = none) : ∀ {vs : List (Key × V)} {ds : List (PyData × PyData)} {ws : List (Key × Value)} {es : List DictEntry}, DqK H vs ds → KV vs ws → Pairs (mixKind X.prog X.w) es ws → ∃ as bs, ReadsAll s.heap (es.map (·.key)) (ds.map (·.1)) as ∧ ReadsAll s.heap (es.map (·.val)) (ds.map (·.2)) bs ∧ sysModules ∉ as ∧ sysModules ∉ bs
  | _, _, _, _, .nil, kv, hp => by cases kv; cases hp; exact ⟨_, _, .nil, .nil, by simp, by simp⟩
  | _, _, _, _, .cons (k := k) a b, kv, hp => by
    cases kv with
    | cons k1 k2 =>
      cases hp with
      | @cons en kw es' ws' p1 p2 p3 =>
        obtain ⟨ek, rv⟩ := k1
        obtain ⟨as, bs, ra, rb, na, nb⟩ := DqK.reads I h1 b k2 p3
        obtain ⟨cs, rc, nc⟩ := Dq.reads I h1 a rv
        have rk : Reads s.heap en.key (keyP k) [] := by
          have p1 : keyIs _ en.key = true := p1
          rw [← ek] at p1
          have p1 : keyIs k en.key = true := p1
          rcases keyIs_shape p1 with ⟨i, t, e1, e2⟩ | ⟨x, t, e1, e2⟩
          · rw [e1, e2]; exact .int i t
          · rw [e1, e2]; exact .str x t
        rw [← p2] at rc
        exact ⟨_, _, .cons rk ra, .cons rc rb, fun z => (List.mem_append.mp z).elim (by simp) na, fun z => (List.mem_append.mp z).elim nc nb⟩
end
def rReprQ : List V → Hp → VK → Prop := fun xs H Q => ∃ x d, xs = [x] ∧ Dq H x d ∧ d.showable = true ∧ d.depth ≤ 60 ∧ d.shown.length ≤ sizeLine ∧ Q (.str d.shown) H
theorem call_reprQ (hg : X.A.guards = some []) (hu : X.A.units + 64 < cLine) (sm : ∃ o, X.base.get? sysModules = some o) : CallR X (.builtin "repr") rReprQ := by
  intro pins s σ H xs us Q I r h
  obtain ⟨x, d, rfl, hd, h1, h2, h4, q⟩ := h
  obtain ⟨u, rfl, rx⟩ := vals1 r
  obtain ⟨as, rd, na⟩ := Dq.reads I (sm_none I sm) hd rx
  have fin : ∀ {t : Tok} {k : Nat} {h' : Heap}, (∀ b o, s.heap.get? b = some o → h'.get? b = some o) → EP X pins σ Q (.str d.shown t) { s with heap := h', toks := k } := fun {t k h'} hk => ⟨.str d.shown, H, I.kept hk, ⟨t, rfl⟩, q⟩
  have fin0 : ∀ {t : Tok} {k : Nat}, EP X pins σ Q (.str d.shown t) { s with toks := k } := fun {t k} => ⟨.str d.shown, H, I.tok _, ⟨t, rfl⟩, q⟩
  cases hd with
  | non => cases rx; exact P.repr_of_none fin0
  | bl b => cases rx; exact P.repr_of_bool fin0
  | int i => obtain ⟨t, rfl⟩ := rx; exact P.repr_of_int (by simpa [PyData.showable] using h1) fin0
  | str y => obtain ⟨t, rfl⟩ := rx; exact P.repr_of_str fin0 h4
  | lst a b => cases rx; exact repr_of_reads' rd h1 (fun _ => na) hg (by omega) (fun _ _ z => z) (fun h' t k hk => fin hk) h4
  | tup a b => cases rx; exact repr_of_reads' rd h1 (fun _ => na) hg (by omega) (fun _ _ z => z) (fun h' t k hk => fin hk) h4
  | dct a b => cases rx; exact repr_of_reads' rd h1 (fun _ => na) hg (by omega) (fun _ _ z => z) (fun h' t k hk => fin hk) h4
end
/-! ### as data -/
mutual
def toQ : D → Option PyData
  | .non => some .none
  | .bl b => some (.bool b)
  | .int i => some (.int i)
  | .str x => some (.str x)
  | .lst xs => (toQs xs).map .list
  | .tup xs => (toQs xs).map .tuple
  | .dct kvs => (toQk kvs).map .dict
  | .obj _ _ => none
  | .pen => none
  | .sct _ => none
  | .mu _ => none
  | .err _ _ => none
def toQs : List D → Option (List PyData)
  | [] => some []
  | d :: ds => (toQ d).bind fun p => (toQs ds).map fun ps => p :: ps
def toQk : List (Key × D) → Option (List (PyData × PyData))
  | [] => some []
  | (k, d) :: ds => (toQ d).bind fun p => (toQk ds).map fun ps => (keyP k, p) :: ps
end
section
variable {K : PySem.W.Frag} {c : Cg} {al : List Addr} {F H : Hp}
mutual
theorem Rep.dq (e : Le F H) : ∀ {v : V} {d : D} {p : PyData}, Rep K c al F v d → toQ d = some p → Dq H v p
  | _, _, _, .non, h => by rw [toQ] at h; cases h; exact .non
  | _, _, _, .bl b, h => by rw [toQ] at h; cases h; exact .bl b
  | _, _, _, .int i, h => by rw [toQ] at h; cases h; exact .int i
  | _, _, _, .str x, h => by rw [toQ] at h; cases h; exact .str x
  | _, _, _, .lst (ds := ds) q r, h => by
    rw [toQ] at h
    cases e1 : toQs ds with
    | none => rw [e1] at h; cases h
    | some ps => rw [e1] at h; cases h; exact .lst (e _ _ q) (RepL.dq e r e1)
  | _, _, _, .tup (ds := ds) q r, h => by
    rw [toQ] at h
    cases e1 : toQs ds with
    | none => rw [e1] at h; cases h
    | some ps => rw [e1] at h; cases h; exact .tup (e _ _ q) (RepL.dq e r e1)
  | _, _, _, .dct (ds := ds) q r, h => by
    rw [toQ] at h
    cases e1 : toQk ds with
    | none => rw [e1] at h; cases h
    | some ps => rw [e1] at h; cases h; exact .dct (e _ _ q) (RepK.dq e r e1)
  | _, _, _, .obj _ _ _ _, h => by rw [toQ] at h; cases h
  | _, _, _, .pen, h => by rw [toQ] at h; cases h
  | _, _, _, .sct _, h => by rw [toQ] at h; cases h
  | _, _, _, .mu _, h => by rw [toQ] at h; cases h
  | _, _, _, .err _ _ _, h => by rw [toQ] at h; cases h
  | _, _, _, .err0 _, h => by rw [toQ] at h; cases h
theorem RepL.dq (e : Le F H) : ∀ {vs : List V} {ds : List D} {ps : List PyData}, RepL K c al F vs ds → toQs ds = some ps → DqAll H vs ps
  | _, _, _, .nil, h => by rw [toQs] at h; cases h; exact .nil
  | _, _, _, .cons (d := d) (ds := ds) a r, h => by
    rw [toQs] at h
    cases e1 : toQ d with
    | none => rw [e1] at h; cases h
    | some p =>
      rw [e1] at h
      cases e2 : toQs ds with
      | none => rw [e2] at h; cases h
      | some ps => rw [e2] at h; cases h; exact .cons (Rep.dq e a e1) (RepL.dq e r e2)
theorem RepK.dq (e : Le F H) : ∀ {vs : List (Key × V)} {ds : List (Key × D)} {ps : List (PyData × PyData)}, RepK K c al F vs ds → toQk ds = some ps → DqK H vs ps
  | _, _, _, .nil, h => by rw [toQk] at h; cases h; exact .nil
  | _, _, _, .cons (d := d) (ds := ds) a r, h => by
    rw [toQk] at h
    cases e1 : toQ d with
    | none => rw [e1] at h; cases h
    | some p =>
      rw [e1] at h
      cases e2 : toQk ds with
      | none => rw [e2] at h; cases h
      | some ps => rw [e2] at h; cases h; exact .cons (Rep.dq e a e1) (RepK.dq e r e2)
end
end
@[reducible] def reprQD : List D → W D
  | [x] => match toQ x with
    | some d => W.need (d.showable = true ∧ d.depth ≤ 60 ∧ d.shown.length ≤ sizeLine) (W.ret (.str d.shown))
    | none => W.stuck
  | _ => W.stuck
theorem lo_reprQ {K : PySem.W.Frag} : LOn K rReprQ reprQD := fun c w s vs xs Q E o r h => by
  unfold reprQD at h
  split at h
  · obtain ⟨v, rfl, rv⟩ := r.one
    split at h
    · rename_i d e
      exact ⟨v, d, rfl, rv.dq o.fro e, h.1.1, h.1.2.1, h.1.2.2, h.2 _ (Go.refl ..) o _ (.str _)⟩
    · exact h.elim
  · exact h.elim
end Ly
set_option Elab.async false
set_option linter.all false
set_option maxRecDepth 100000
set_option maxHeartbeats 2000000
/-! Ly23: min, xs.extend(ys), xs.count(True), zip. -/
namespace Ly
open PySem PySem.Spec L2 PyProof.Rows He
open Lx (Le)
section
variable {K : PySem.W.Frag}
@[reducible] def minD : List D → W D
  | [.int i, .int j] => W.ret (.int (if j < i then j else i))
  | _ => W.stuck
theorem lo_min : LOn K (fun xs H Q => ∃ i j, xs = [.int i, .int j] ∧ Q (.int (if j < i then j else i)) H) minD := fun c w s vs xs Q E o r h => by
  unfold minD at h
  split at h
  · rename_i i j
    rw [r.int2]
    exact ⟨i, j, rfl, h _ (Go.refl ..) o _ (.int _)⟩
  · exact h.elim
@[reducible] def dExt (i : Nat) (f : List Sl → W D) : List Sl → W Out := fun δ => (dVar i δ).bind fun x => match x with
  | .mu j => (W.get j).bind fun o => (match o with
    | .lst _ => (f δ).bind fun y => (W.get j).bind fun o => (match o with
      | .lst xs => (match y with
        | .lst ys => W.need (xs.length + ys.length ≤ sizeLine) ((W.put j (.lst (xs ++ ys))).bind fun _ => W.ret (.nx δ))
        | _ => W.stuck)
      | _ => W.stuck)
    | _ => W.stuck)
  | _ => W.stuck
theorem ls_ext {te : XK → TE} {f : List Sl → W D} {i : Nat} (he : LE K te f) : LS K (fun E => tDrop (tBM K "list" rExtend (tVar i) (tCons (te E) tNil))) (dExt i f) := fun c w s σ δ D E o sl q => by
  have q := q.bind
  unfold dVar at q
  cases e : δ[i]? with
  | none => rw [e] at q; exact (show False from q).elim
  | some x => cases x with
    | none => rw [e] at q; exact (show False from q).elim
    | some d =>
      rw [e] at q
      have q := Den.ret q o
      obtain ⟨v, hv, rv⟩ := sl.val i d e
      cases rv with
      | @mu j a hj =>
        obtain ⟨mo, em, q⟩ := q
        have rm := o.sto j a mo hj em
        cases mo with
        | lst xs0 =>
          obtain ⟨hF0, vs0, h0, _⟩ := rm
          refine ⟨.ref a, hv, .inl ⟨rfl, vs0, SqL.of h0⟩, he c w s σ δ _ E o sl ((Den.bind q).mono fun y w1 s1 g1 o1 p u ru => ?_)⟩
          obtain ⟨mo1, em1, p⟩ := p
          have hj1 := g1.sub.at hj
          have rm1 := o1.sto j a mo1 hj1 em1
          cases mo1 with
          | lst xs =>
            obtain ⟨hF, vs, h1, rl⟩ := rm1
            cases ru with
            | @lst b us ys hb rb =>
              obtain ⟨p1, p2⟩ := p
              refine ⟨a, b, vs, us, rfl, rfl, h1, o1.fro _ _ hb, by rw [rl.len, rb.len]; exact p1, ?_⟩
              obtain ⟨o2, g2⟩ := o1.ch (p := a) (o := .lst (vs ++ us)) (mo := .lst (xs ++ ys)) hj1 hF notOwn.1 notOwn.2 ⟨hF, _, upd_same, rl.app rb⟩
              exact p2 _ g2 o2 σ ((sl.go g1).go g2)
            | _ => exact p.elim
          | _ => exact p.elim
        | _ => exact q.elim
      | _ => exact (show False from q).elim
/-! ### count -/
def rCountB : V → List V → Hp → VK → Prop := fun x xs H Q => ∃ (l : Addr) (bs : List Bool), x = .ref l ∧ xs = [.bl true] ∧ H l = some (.lst (bs.map V.bl)) ∧ Q (.int (bs.countP id : Nat)) H
theorem vals_bl : ∀ (bs : List Bool) {its : List Value}, Vals (bs.map V.bl) its → its = bs.map Value.bool
  | [], _, r => by cases r; rfl
  | b :: t, _, r => by
    cases r with
    | cons r1 r2 => cases r1; rw [vals_bl t r2]; rfl
theorem mt_countB {X : Cx} : MtR X "list.count" rCountB := by
  intro pins s σ H x vs v us Q I rx rv h
  obtain ⟨l, bs, rfl, rfl, hH, q⟩ := h
  cases rx
  obtain ⟨u, rfl, ru⟩ := vals1 rv
  cases ru
  obtain ⟨_, its, n, r, e⟩ := I.hok l _ hH
  have ei := vals_bl bs r
  subst ei
  have hc : ((bs.map Value.bool).toArray.toList.countP fun y => y == Value.bool true) = bs.countP id := by
    rw [List.countP_map]
    congr 1
    funext b
    cases b <;> rfl
  refine call_meets F.slot_list_count ⟨_, e, rfl⟩ F.entry_list_count (F.args_list_count_2 _ _) (SeqAt.list_countAt l (bs.map Value.bool).toArray n none #[] (.bool true) (fun y => y == .bool true)) ⟨e, fun y hy => ?_, ?_⟩
  · have hy : y ∈ bs.map Value.bool := by simpa using hy
    obtain ⟨b, _, rfl⟩ := List.mem_map.mp hy
    have := eqAt_V (A := X.A.in1) (s := s) (y := .bl b) (x := .bl true) (u := .bool b) (v := .bool true) rfl rfl rfl rfl
    have e2 : eqV (.bl b) (.bl true) = (Value.bool b == Value.bool true) := by cases b <;> rfl
    rw [e2] at this
    exact this
  · rw [hc]
    exact ⟨.int (bs.countP id : Nat), H, I.tok _, ⟨_, rfl⟩, q⟩
@[reducible] def dCount (fo : List Sl → W D) (f : List Sl → W (List D)) : List Sl → W D := fun δ => (fo δ).bind fun x => match x with
  | .lst xs => (f δ).bind fun ys => (match ys, bools xs with
    | [.bl true], some bs => W.ret (.int (bs.countP id : Nat))
    | _, _ => W.stuck)
  | _ => W.stuck
theorem le_count {to : XK → TE} {t : XK → TA} {fo : List Sl → W D} {f : List Sl → W (List D)} (ho : LE K to fo) (ha : LA K t f) : LE K (fun E => tBM K "list" rCountB (to E) (t E)) (dCount fo f) := fun c w s σ δ Q E o sl h =>
  ho c w s σ δ _ E o sl (h.bind.mono fun x w1 s1 g1 o1 q v r1 => by
    cases r1 with
    | @lst a vs xs q0 r =>
      refine ⟨.inl ⟨rfl, vs, SqL.of (o1.fro _ _ q0)⟩, ha c w1 s1 σ δ _ E o1 (sl.go g1) ((show Den K c ((f δ).bind _) w1 s1 _ _ from q).bind.mono fun ys w2 s2 g2 o2 q2 ws r2 => ?_)⟩
      split at q2
      · rename_i bs eb
        cases r2 with
        | cons ra rb =>
          cases ra
          cases rb
          have ev := bools_rep (r.up g2.sub) eb
          subst ev
          exact ⟨a, bs, rfl, rfl, o2.fro _ _ (g2.sub.le _ _ q0), q2 _ (Go.refl ..) o2 _ (.int _)⟩
      · exact q2.elim
    | _ => exact q.elim)
/-! ### zip -/
def zipD : List D → List D → List D
  | x :: xs, y :: ys => .tup [x, y] :: zipD xs ys
  | _, _ => []
theorem zipD_get : ∀ (xs ys : List D) (i : Nat) (d : D), (zipD xs ys)[i]? = some d → ∃ x y, xs[i]? = some x ∧ ys[i]? = some y ∧ d = .tup [x, y]
  | [], _, i, d, h => by simp [zipD] at h
  | _ :: _, [], i, d, h => by simp [zipD] at h
  | x :: xs, y :: ys, 0, d, h => by simp [zipD] at h; exact ⟨x, y, rfl, rfl, h.symm⟩
  | x :: xs, y :: ys, i + 1, d, h => zipD_get xs ys i d (by simpa [zipD] using h)
theorem zipD_end : ∀ (xs ys : List D) (i : Nat), (zipD xs ys).length ≤ i → xs.length ≤ i ∨ ys.length ≤ i
  | [], _, i, _ => .inl (Nat.zero_le _)
  | _ :: _, [], i, _ => .inr (Nat.zero_le _)
  | x :: xs, y :: ys, 0, h => by simp [zipD] at h
  | x :: xs, y :: ys, i + 1, h => by
    rcases zipD_end xs ys i (by simpa [zipD] using h) with z | z
    · exact .inl (by simpa using z)
    · exact .inr (by simpa using z)
@[reducible] def dZip (f : List Sl → W (List D)) : List Sl → W (List D) := fun δ => (f δ).bind fun ds => match ds with | [.lst xs, .lst ys] => W.ret (zipD xs ys) | _ => W.stuck
theorem yie_zip {c : Cg} {w : Wd} {a b : Addr} {vs us : List V} {ds es : List D} (q : w.F a = some (.lst vs)) (q2 : w.F b = some (.lst us)) (r : RepL K c w.al w.F vs ds) (r2 : RepL K c w.al w.F us es) : Yie K c w (Itz K a b) (zipD ds es) := fun i w1 s g o => by
  have h1 : SqL K w1.H a vs := SqL.of (o.fro _ _ (g.le _ _ q))
  have h2 : SqL K w1.H b us := SqL.of (o.fro _ _ (g.le _ _ q2))
  refine ⟨fun d hd => ?_, fun h => ⟨vs, us, h1, h2, by rw [r.len, r2.len]; exact zipD_end ds es i h⟩⟩
  obtain ⟨x, y, ex, ey, rfl⟩ := zipD_get ds es i d hd
  obtain ⟨v, hv, rv⟩ := r.get ex
  obtain ⟨u, hu, ru⟩ := r2.get ey
  refine ⟨⟨vs, us, v, u, h1, h2, hv, hu⟩, fun z H2 yl => ?_⟩
  obtain ⟨T, x', y', rfl, hT, rfl, k1, k2⟩ := yl
  have e1 := k1 vs h1
  have e2 := k2 us h2
  rw [hv] at e1
  rw [hu] at e2
  cases e1
  cases e2
  obtain ⟨o2, g2⟩ := o.lay (p := T) (o := .tup [v, u]) hT (fun ps z => by cases z)
  exact ⟨_, rfl, g2, o2, .tup upd_same (.cons ((rv.up g).up g2.sub) (.cons ((ru.up g).up g2.sub) .nil))⟩
theorem li_zip {ta : XK → TA} {fa : List Sl → W (List D)} (ha : LA K ta fa) : LI K (fun E => RZ.iZipA K (ta E)) (dZip fa) := fun c w s σ δ R E o sl h =>
  ha c w s σ δ _ E o sl (h.bind.mono fun ds w1 s1 g1 o1 p vs r1 => by
    split at p
    · rename_i xs ys
      cases r1 with
      | cons ra rr =>
        cases rr with
        | cons rb rn =>
          cases rn
          cases ra with
          | @lst a us _ qa la =>
            cases rb with
            | @lst b ws _ qb lb => exact ⟨a, b, us, ws, rfl, .inl ⟨SqL.of (o1.fro _ _ qa), SqL.of (o1.fro _ _ qb), p.ret o1 _ (yie_zip qa qb la lb)⟩⟩
    · exact p.elim)
end
end Ly
set_option Elab.async false
set_option linter.all false
set_option maxRecDepth 100000
set_option maxHeartbeats 2000000
/-! Ly24: facts of own exceptions, promises of their inits, packed. -/
namespace Ly
open PySem PySem.Spec L2 PyProof.Rows He
open Lx (Le SupScope SupD cxS Ky vTy)
section
variable {K : PySem.W.Frag}
theorem obB_ok {C : Addr} {newId : String} {tl : List String} (h : obB K C newId tl = true) : ∃ nm q N bs sn sub ab col dd k0 k1 k2 k3 k5, K.lookup C = some (excClassObj nm q C N bs (tl.map Value.type) true sn sub ab col dd k0 k1 k2 k3 k5 newId) := by
  unfold obB at h
  split at h
  · rename_i t dd cd sl e
    split at h
    · rename_i C' bm k0 k1 k2 k3 n k5 hm hs
      obtain ⟨h1, h⟩ := ba h
      obtain ⟨h2, h⟩ := ba h
      obtain ⟨h3, h⟩ := ba h
      obtain ⟨h4, h⟩ := ba h
      obtain ⟨h5, h6⟩ := ba h
      have e1 := of_decide_eq_true h1
      have e2 := of_decide_eq_true h2
      have e3 := of_decide_eq_true h3
      have e4 : cd.hasDel = false := by simpa using h4
      have e6 := eq_of_beq h6
      subst e1 e2 e3 e6
      obtain ⟨nm, bs, mro, ns, qn, hd, sn, sub, ab, col, del⟩ := cd
      dsimp only at hm h5 e4
      subst hm h5 e4
      have esl : sl = #[k0, k1, k2, k3, some (.builtin n), k5] := by
        have : sl.toList = (#[k0, k1, k2, k3, some (.builtin n), k5] : Array (Option Value)).toList := hs
        exact Array.toList_inj.mp this
      subst esl
      exact ⟨nm, qn, ns, bs, sn, sub, ab, col, dd, k0, k1, k2, k3, k5, e⟩
    · cases h
  · cases h
theorem fy_ob {x : Str} {B newId initId : String} {tl : List String} (b : BaseX B newId initId (tl.map Value.type)) (h : (Fy.ob x B newId initId tl).ok K = true) :
    XB K (ga K x) B newId initId (tl.map Value.type) ∧ PySem.W.findIn K (.ref (ga K x)) "__init__" = some (some (.ref (ma K (ga K x) "__init__"))) ∧ PySem.W.typeIn K (.ref (ma K (ga K x) "__init__")) = some (.type "function") := by
  obtain ⟨h1, h⟩ := ba h
  obtain ⟨h2, h⟩ := ba h
  obtain ⟨h3, h⟩ := ba h
  obtain ⟨h4, h⟩ := ba h
  obtain ⟨h5, h⟩ := ba h
  obtain ⟨h6, h⟩ := ba h
  obtain ⟨h7, h⟩ := ba h
  obtain ⟨h8, h⟩ := ba h
  obtain ⟨h9, h10⟩ := ba h
  exact ⟨⟨⟨b, obB_ok h1, eqO_ok h2, of_decide_eq_true h3, of_decide_eq_true h4, h5⟩, eqO_ok h6, of_decide_eq_true h7, of_decide_eq_true h8⟩, eqO_ok h9, of_decide_eq_true h10⟩
theorem fy_xfl {x fld : Str} (h : (Fy.xfl x fld).ok K = true) : XfC K (ga K x) ∧ PySem.W.findIn K (.ref (ga K x)) fld = some none := by
  obtain ⟨h1, h2⟩ := ba h
  exact ⟨xfB_ok h1, eqO_ok h2⟩
theorem fy_xis {x : Str} (h : (Fy.xis x).ok K = true) : ExcC K (ga K x) := by
  obtain ⟨h2, h⟩ := ba h
  obtain ⟨h4, h⟩ := ba h
  obtain ⟨h5, h⟩ := ba h
  obtain ⟨h6, h7⟩ := ba h
  have xf := xfB_ok h2
  exact ⟨xf.ga, xf.gg, xf.exC, xf.hdC, eqO_ok h4, eqO_ok h5, of_decide_eq_true h6, of_decide_eq_true h7⟩
theorem fy_xki {x : Str} {t : Ky} {b : Bool} (h : (Fy.xki x t b).ok K = true) : PySem.W.kitOne K (.ref (ga K x)) (vTy K t) = some b := of_decide_eq_true h
theorem fy_ex0 {x : Str} {newId : String} {tl : List String} (h : (Fy.ex0 x newId tl).ok K = true) : PySem.W.excIn K (ga K x) (tl.map Value.type) newId = true ∧ PySem.W.keepIn K (.ref (ga K x)) = true := ba h
end
/-! ### inits with one field, with two -/
section
variable {B newId initId : String} {tl : List Value} {P : Program} {w : World} {K : PySem.W.Frag} {mg : Str → Option Value} {base : Heap} {nm qual : Str} {params : Arguments} {body : List Stmt} {scope : Scope} {DC f : Addr} {fd : FuncData}
theorem fn_err1 {CX : CXT} {k : Nat} {p0 p1 apos pos pos2 q1 q2 q3 q4 q5 : Pos} {slf f1 : Str} {ar : Arg} (F : SupD P K nm qual params body scope DC f fd) (S : SupScope [slf, f1] [slf, f1] scope) (har : (params.posonlyargs ++ params.args).head? = some ar) (hslf : ar.arg = slf) (XF : XB K DC B newId initId tl) (hno : PySem.W.findIn K (.ref DC) f1 = some none)
    (hloc : scope.names.lookup slf = some .local) (hloc1 : scope.names.lookup f1 = some .local)
    (hb : body = [.Expr (.Call (.Attribute (.Call (.Name "super" p0) [] [] p1) "__init__" apos) [.Name f1 q1] [] pos) pos2, .Assign [.Attribute (.Name slf q2) f1 q3] (.Name f1 q4) q5]) (hboot : bootBuiltins "super" = some (.type "super"))
    (hd1 : (slf == ("__debug__" : Str)) = false) (hd2 : (f1 == ("__debug__" : Str)) = false) (hd3 : (slf == ("__classdict__" : Str)) = false) (hd4 : (f1 == ("__classdict__" : Str)) = false)
    (hst : ∀ env : Env, starEach [.Name f1 q1] env = (false, eval (.Name f1 q1) env) :: starEach [] env) (hpl : ∀ env : Env, (backTo pos (starEach [] env)).any (·.1) = false)
    (hsw : ∀ env : Env, swapsWith (.Call (.Attribute (.Call (.Name "super" p0) [] [] p1) "__init__" apos) [.Name f1 q1] [] pos) none pos2.line env = pure false)
    (hsw2 : ∀ env : Env, swapsWith (.Name f1 q4) (some (.Attribute (.Name slf q2) f1 q3)) q5.line env = pure false)
    (hev : ∀ env : Env, ∃ plS : Sem Bool, eval (.Call (.Attribute (.Call (.Name "super" p0) [] [] p1) "__init__" apos) [.Name f1 q1] [] pos) env = (do
      let ov ← attributeBase (.Call (.Name "super" p0) [] [] p1) "__init__" env (eval (.Call (.Name "super" p0) [] [] p1) env)
      standAt apos.atName
      let (f, first) ← holding [ov] (getMethod ov "__init__" plS)
      callWith pos f first (backTo pos (starEach [.Name f1 q1] env)) [])) :
    FnOk P w K mg base CX (k + 1) f fd [slf, f1] (sp1 DC slf f1) := by
  refine fn_excG (ta := tCons (tVar 1) tNil) (tr := tOstB DC f1 (tVar 0) (tVar 1)) F S har hslf XF hloc hb hboot (fun cd cc A outer s H E => ?_) (fun vs H hl => ?_) (fun cd cc A outer s H E => ?_) hst hpl hsw hev
  · exact pa_cons (pe_var (X := (cxS CX P w K mg base [slf, f1] qual scope f cd cc A outer s H E).nox) (i := 1) rfl (.inl hloc1) hd2 hd4) pa_nil
  · match vs, hl with
    | [a, v], _ => exact ⟨v, rfl, by show 1 ≤ 1000; decide, rfl⟩
  · exact pss_one (ps_ostB (X := (cxS CX P w K mg base [slf, f1] qual scope f cd cc A outer s H E).nox) XF.T hno (pe_var (X := (cxS CX P w K mg base [slf, f1] qual scope f cd cc A outer s H E).nox) (i := 0) rfl (.inl hloc) hd1 hd3) (pe_var (X := (cxS CX P w K mg base [slf, f1] qual scope f cd cc A outer s H E).nox) (i := 1) rfl (.inl hloc1) hd2 hd4) (hsw2 _))
theorem fn_err2 {CX : CXT} {k : Nat} {p0 p1 apos pos pos2 q1 q2 q3 q4 q5 r1 r2 r3 r4 r5 : Pos} {slf f1 f2 : Str} {ar : Arg} (F : SupD P K nm qual params body scope DC f fd) (S : SupScope [slf, f1, f2] [slf, f1, f2] scope) (har : (params.posonlyargs ++ params.args).head? = some ar) (hslf : ar.arg = slf) (XF : XB K DC B newId initId tl) (hno : PySem.W.findIn K (.ref DC) f1 = some none) (hno2 : PySem.W.findIn K (.ref DC) f2 = some none)
    (hloc : scope.names.lookup slf = some .local) (hloc1 : scope.names.lookup f1 = some .local) (hloc2 : scope.names.lookup f2 = some .local)
    (hb : body = [.Expr (.Call (.Attribute (.Call (.Name "super" p0) [] [] p1) "__init__" apos) [.Name f1 q1, .Name f2 r1] [] pos) pos2, .Assign [.Attribute (.Name slf q2) f1 q3] (.Name f1 q4) q5, .Assign [.Attribute (.Name slf r2) f2 r3] (.Name f2 r4) r5]) (hboot : bootBuiltins "super" = some (.type "super"))
    (hd1 : (slf == ("__debug__" : Str)) = false) (hd2 : (f1 == ("__debug__" : Str)) = false) (hd3 : (slf == ("__classdict__" : Str)) = false) (hd4 : (f1 == ("__classdict__" : Str)) = false) (hd5 : (f2 == ("__debug__" : Str)) = false) (hd6 : (f2 == ("__classdict__" : Str)) = false)
    (hst : ∀ env : Env, starEach [.Name f1 q1, .Name f2 r1] env = (false, eval (.Name f1 q1) env) :: starEach [.Name f2 r1] env) (hpl : ∀ env : Env, (backTo pos (starEach [.Name f2 r1] env)).any (·.1) = false)
    (hsw : ∀ env : Env, swapsWith (.Call (.Attribute (.Call (.Name "super" p0) [] [] p1) "__init__" apos) [.Name f1 q1, .Name f2 r1] [] pos) none pos2.line env = pure false)
    (hsw2 : ∀ env : Env, swapsWith (.Name f1 q4) (some (.Attribute (.Name slf q2) f1 q3)) q5.line env = pure false) (hsw3 : ∀ env : Env, swapsWith (.Name f2 r4) (some (.Attribute (.Name slf r2) f2 r3)) r5.line env = pure false)
    (hev : ∀ env : Env, ∃ plS : Sem Bool, eval (.Call (.Attribute (.Call (.Name "super" p0) [] [] p1) "__init__" apos) [.Name f1 q1, .Name f2 r1] [] pos) env = (do
      let ov ← attributeBase (.Call (.Name "super" p0) [] [] p1) "__init__" env (eval (.Call (.Name "super" p0) [] [] p1) env)
      standAt apos.atName
      let (f, first) ← holding [ov] (getMethod ov "__init__" plS)
      callWith pos f first (backTo pos (starEach [.Name f1 q1, .Name f2 r1] env)) [])) :
    FnOk P w K mg base CX (k + 1) f fd [slf, f1, f2] (sp2 DC slf f1 f2) := by
  refine fn_excG (ta := tCons (tVar 1) (tCons (tVar 2) tNil)) (tr := tSeq (tOstB DC f1 (tVar 0) (tVar 1)) (tOstB DC f2 (tVar 0) (tVar 2))) F S har hslf XF hloc hb hboot (fun cd cc A outer s H E => ?_) (fun vs H hl => ?_) (fun cd cc A outer s H E => ?_) hst hpl hsw hev
  · exact pa_cons (pe_var (X := (cxS CX P w K mg base [slf, f1, f2] qual scope f cd cc A outer s H E).nox) (i := 1) rfl (.inl hloc1) hd2 hd4) (pa_cons (pe_var (X := (cxS CX P w K mg base [slf, f1, f2] qual scope f cd cc A outer s H E).nox) (i := 2) rfl (.inl hloc2) hd5 hd6) pa_nil)
  · match vs, hl with
    | [a, v, u], _ => exact ⟨v, rfl, u, rfl, by show 2 ≤ 1000; decide, rfl⟩
  · have v0 : ∀ {pp : Pos}, PE (cxS CX P w K mg base [slf, f1, f2] qual scope f cd cc A outer s H E).nox (.Name slf pp) (tVar 0) := fun {pp} => pe_var (X := (cxS CX P w K mg base [slf, f1, f2] qual scope f cd cc A outer s H E).nox) (i := 0) rfl (.inl hloc) hd1 hd3
    exact pss_cons (ps_ostB (X := (cxS CX P w K mg base [slf, f1, f2] qual scope f cd cc A outer s H E).nox) XF.T hno v0 (pe_var (X := (cxS CX P w K mg base [slf, f1, f2] qual scope f cd cc A outer s H E).nox) (i := 1) rfl (.inl hloc1) hd2 hd4) (hsw2 _))
      (pss_one (ps_ostB (X := (cxS CX P w K mg base [slf, f1, f2] qual scope f cd cc A outer s H E).nox) XF.T hno2 v0 (pe_var (X := (cxS CX P w K mg base [slf, f1, f2] qual scope f cd cc A outer s H E).nox) (i := 2) rfl (.inl hloc2) hd5 hd6) (hsw3 _)))
end
/-- promises of such inits -/
structure FkE (P : Program) (w : World) (K : PySem.W.Frag) (mg : Str → Option Value) (base : Heap) (k n : Nat) (cls : Str) (sp : Sp) (ks : List Str) (is : List Nat) : Prop where
  ex : ∃ (B newId initId : String) (tl : List Value) (fI : Addr) (fd : FuncData) (ps : List Str), OB K (ga K cls) B newId initId tl ∧ PySem.W.findIn K (.ref (ga K cls)) "__init__" = some (some (.ref fI)) ∧ PySem.W.typeIn K (.ref fI) = some (.type "function") ∧ FnOk P w K mg base (L2.CX P w) k fI fd ps sp ∧ Binds K fd ps [] ∧ ps.length = n + 1 ∧ KBn K fd ps 1 ks (fun us ws => us ++ pick is ws) (fun vs zs => vs ++ pick is zs)
section
variable {X : Cx} {E : XK} {k n : Nat} {x : Str} {sp : Sp} {ks : List Str} {is : List Nat} {e : Expr} {es : List Expr} {kws : List Keyword} {t tk : TA} {p pos : Pos}
theorem pe_eP (F : FkE X.prog X.w X.K X.mg X.base k n x sp ks is) (hr : Room (k + 1) X.A) (hn : n ≤ 1000) (hx : Passes (L2.CX X.prog X.w) X E) (hg : Gl X x) (hm : X.mg x = some (.ref (ga X.K x))) (ha : PA X (e :: es) t)
    (hdb : (x == ("__debug__" : Str)) = false := by decide) (he : starEach (e :: es) X.env = (false, eval e X.env) :: starEach es X.env := by rfl) (hpl : (backTo pos (starEach es X.env)).any (·.1) = false := by rfl) :
    PE X (.Call (.Name x p) (e :: es) [] pos) (tErrK (ga X.K x) n 0 sp (fun vs _ => vs) E t tNil) := by
  obtain ⟨B, newId, initId, tl, fI, fd, ps, T, iC, tI, G, hb, hl, _⟩ := F.ex
  exact pe_errP T iC tI G hr hb hl hn hx hg hm ha hdb he hpl
theorem pe_eK (F : FkE X.prog X.w X.K X.mg X.base k n x sp ks is) (hr : Room (k + 1) X.A) (hx : Passes (L2.CX X.prog X.w) X E) (hg : Gl X x) (hm : X.mg x = some (.ref (ga X.K x))) (hkw : PK X kws tk)
    (hall : (backToKw pos (keywordEach kws X.env)).all (·.1.isSome) = true := by rfl) (hks : (backToKw pos (keywordEach kws X.env)).filterMap (·.1) = ks := by rfl) (hdb : (x == ("__debug__" : Str)) = false := by decide)
    (hpl : ((backTo pos (starEach [] X.env)).any (·.1) || (backToKw pos (keywordEach kws X.env)).any (·.1.isNone)) = false := by rfl) :
    PE X (.Call (.Name x p) [] kws pos) (tErrK (ga X.K x) 0 ks.length sp (fun vs zs => vs ++ pick is zs) E tNil tk) := by
  obtain ⟨B, newId, initId, tl, fI, fd, ps, T, iC, tI, G, hb, hl, kb⟩ := F.ex
  exact pe_errK T iC tI G hr kb hx hg hm hkw hall hks hdb hpl
end
end Ly
set_option Elab.async false
set_option linter.all false
set_option maxRecDepth 100000
set_option maxHeartbeats 4000000
/-! Ly15: what a mirror tells: Rt (it gives just this, no draw, the store only grows), Rx (it raises just this), Tm (at most B draws, any answer with Q). -/
namespace Ly
open PySem L2
def Rt {A : Type} (m : W A) (a : A) : Prop := ∀ (s : S) (Q : S → A → Prop) (E : S → Xn → Prop), (∀ t : S, t.n = s.n → s.st <+: t.st → Q t a) → m.wp s Q E
def Rx {A : Type} (m : W A) (x : Xn) : Prop := ∀ (s : S) (Q : S → A → Prop) (E : S → Xn → Prop), (∀ t : S, t.n = s.n → s.st <+: t.st → E t x) → m.wp s Q E
def Tm {A : Type} (B : Nat) (m : W A) (Q : A → Prop) : Prop := ∀ (s : S) (E : S → Xn → Prop), B ≤ s.n → m.wp s (fun t a => s.n ≤ t.n + B ∧ s.st <+: t.st ∧ Q a) E
section
variable {A C : Type} {m : W A} {a : A} {f : A → W C} {b : C} {B B1 B2 : Nat} {Q : A → Prop} {R : C → Prop} {x : Xn}
theorem Rt.ret : Rt (W.ret a) a := fun s _ _ q => q s rfl (List.prefix_refl _)
theorem Rt.bind (h : Rt m a) (g : Rt (f a) b) : Rt (m.bind f) b := fun s Q E q => h s _ E fun t e p => g t Q E fun u e2 p2 => q u (e2.trans e) (p.trans p2)
theorem Rt.need {c : Prop} (h : c) (g : Rt m a) : Rt (W.need c m) a := fun n Q E q => ⟨h, g n Q E q⟩
theorem Rt.cast {a' : A} (h : Rt m a) (e : a = a') : Rt m a' := e ▸ h
theorem Rt.calm (h : Rt m a) : Rt m.calm a := fun s Q _ q => h s Q _ q
theorem Rx.raise : Rx (W.raise x : W A) x := fun s _ _ q => q s rfl (List.prefix_refl _)
theorem Rx.now (h : Rx m x) : Rx (m.bind f) x := fun s Q E q => h s _ E q
theorem Rx.bind (h : Rt m a) (g : Rx (f a) x) : Rx (m.bind f) x := fun s Q E q => h s _ E fun t e p => g t Q E fun u e2 p2 => q u (e2.trans e) (p.trans p2)
theorem Rx.need {c : Prop} (h : c) (g : Rx m x) : Rx (W.need c m) x := fun n Q E q => ⟨h, g n Q E q⟩
theorem Tm.ret (h : Q a) : Tm B (W.ret a) Q := fun s E _ => ⟨Nat.le_add_right _ _, List.prefix_refl _, h⟩
theorem Tm.of (h : Rt m a) (q : Q a) : Tm B m Q := fun s E _ => h s _ E fun t e p => ⟨by omega, p, q⟩
theorem Tm.bind (h : Tm B1 m Q) (g : ∀ a, Q a → Tm B2 (f a) R) (hb : B1 + B2 ≤ B) : Tm B (m.bind f) R := fun s E hn =>
  m.mono (fun k a ⟨h1, hp, h2⟩ => (f a).mono (fun j c ⟨h3, hp2, h4⟩ => ⟨by omega, hp.trans hp2, h4⟩) (fun _ _ z => z) (g a h2 k E (by omega))) (fun _ _ z => z) (h s E (by omega))
theorem Tm.bindR (h : Rt m a) (g : Tm B (f a) R) : Tm B (m.bind f) R := fun s E hn => h s _ E fun t e p => (f a).mono (fun j c ⟨h3, hp2, h4⟩ => ⟨by omega, p.trans hp2, h4⟩) (fun _ _ z => z) (g t E (by omega))
theorem Tm.need {c : Prop} (h : c) (g : Tm B m Q) : Tm B (W.need c m) Q := fun n E hn => ⟨h, g n E hn⟩
theorem Tm.mono {Q' : A → Prop} (h : Tm B1 m Q) (hb : B1 ≤ B) (hq : ∀ a, Q a → Q' a) : Tm B m Q' := fun s E hn => m.mono (fun k a ⟨h1, hp, h2⟩ => ⟨by omega, hp, hq a h2⟩) (fun _ _ z => z) (h s E (by omega))
theorem Tm.calm (h : Tm B m Q) : Tm B m.calm Q := fun s _ hn => h s _ hn
theorem Tm.any {P : A → Prop} : Tm 1 (W.any 1 P) P := fun s E hn => ⟨s.n - 1, by omega, fun a q => ⟨by show s.n ≤ s.n - 1 + 1; omega, List.prefix_refl _, q⟩⟩
theorem Tm.wp (h : Tm B m Q) {s : S} {E : S → Xn → Prop} (hb : B ≤ s.n) : m.wp s (fun _ a => Q a) E := m.mono (fun k a z => z.2.2) (fun _ _ z => z) (h s E hb)
theorem catR_v {cls fld : Str} {m : W D} {a : D} (h : Rt m a) : Rt (catR cls fld m) .non := fun s Q E q => h s _ _ q
theorem catR_x {cls fld : Str} {m : W D} {d : D} (h : Rx m ⟨cls, [(fld, d)]⟩) : Rt (catR cls fld m) (.lst [d, .bl true]) := fun s Q E q => h s _ _ fun t e p => ⟨rfl, d, by rw [List.lookup_cons, beq_self_eq_true], q t e p⟩
theorem catT_v {cls fld : Str} {m : W D} {a : D} (h : Rt m a) : Rt (catT cls fld m) a := fun s Q E q => h s _ _ q
theorem catT_x {cls fld : Str} {m : W D} {d : D} (h : Rx m ⟨cls, [(fld, d)]⟩) : Rt (catT cls fld m) (.tup [.str "wrong", d, .bl true]) := fun s Q E q => h s _ _ fun t e p => ⟨rfl, d, by rw [List.lookup_cons, beq_self_eq_true], q t e p⟩
end
theorem draw_t {m : Int} (h0 : 0 < m) (h1 : m < 1073741824) : Tm 1 (drawD [.pen, .int m]) (fun d => ∃ i : Int, d = .int i ∧ 0 ≤ i ∧ i < m) := Tm.need ⟨h0, h1⟩ Tm.any
/-! ### objects made -/
theorem pre_get {α : Type} {l r : List α} {i : Nat} {a : α} (h : l <+: r) (e : l[i]? = some a) : r[i]? = some a := by
  obtain ⟨t, rfl⟩ := h
  rw [List.getElem?_append_left (List.getElem?_eq_some_iff.mp e).1]; exact e
theorem pre_set {α : Type} {l r : List α} {i : Nat} {a b : α} (h : l <+: r) (e : l[i]? = some a) : l.set i b <+: r.set i b := by
  obtain ⟨t, rfl⟩ := h
  rw [List.set_append_left _ _ (List.getElem?_eq_some_iff.mp e).1]
  exact List.prefix_append _ _
/-- the init g makes an object of the class c with fields gs0 one with gs1 -/
def In (g : List D → W D) (c : Str) (gs0 gs1 : List (Str × D)) (ds : List D) : Prop := ∀ (s : S) (i : Nat) (Q : S → D → Prop) (E : S → Xn → Prop), s.st[i]? = some (.ins c gs0) → (∀ t : S, t.n = s.n → s.st.set i (.ins c gs1) <+: t.st → Q t .non) → (g (.mu i :: ds)).wp s Q E
/-- .. it raises x -/
def InX (g : List D → W D) (c : Str) (gs0 : List (Str × D)) (x : Xn) (ds : List D) : Prop := ∀ (s : S) (i : Nat) (Q : S → D → Prop) (E : S → Xn → Prop), s.st[i]? = some (.ins c gs0) → (∀ t : S, t.n = s.n → s.st <+: t.st → E t x) → (g (.mu i :: ds)).wp s Q E
section
variable {c : Str} {g : List D → W D} {ds : List D} {gs gs0 gs1 : List (Str × D)} {δ : List Sl} {f : List Sl → W (List D)} {m : Nat} {x : Xn}
theorem new_get {l : List MO} {o : MO} : (l ++ [o])[l.length]? = some o := by simp
theorem mk_r (h : In g c [] gs ds) : Rt (mkObj c g ds) (.obj c gs) := fun s Q E q => by
  show (g (.mu s.st.length :: ds)).wp ⟨s.n, s.st ++ [.ins c []]⟩ (fun t v => (W.need (v = .non) ((W.get s.st.length).bind fun o => match o with
  | .ins cl' gs => (W.put s.st.length .gone).bind fun _ => W.ret (D.obj cl' gs)
  | _ => W.stuck)).wp t Q E) E
  refine h ⟨s.n, s.st ++ [.ins c []]⟩ s.st.length _ E new_get ?_
  intro t e p
  refine ⟨rfl, ?_⟩
  have p : (s.st ++ [MO.ins c []]).set s.st.length (.ins c gs) <+: t.st := p
  have e0 : (s.st ++ [MO.ins c []]).set s.st.length (.ins c gs) = s.st ++ [.ins c gs] := by simp
  rw [e0] at p
  refine ⟨.ins c gs, pre_get p new_get, q ⟨t.n, t.st.set s.st.length .gone⟩ e ?_⟩
  refine List.IsPrefix.trans ?_ (pre_set (b := .gone) p new_get)
  simp
theorem mk_x (h : InX g c [] x ds) : Rx (mkObj c g ds) x := fun s Q E q =>
  h ⟨s.n, s.st ++ [.ins c []]⟩ s.st.length _ E new_get fun t e p => q t e (List.IsPrefix.trans (List.prefix_append _ _) p)
theorem make_r (hf : Rt (f δ) ds) (hm : ds.length = m) (h : In g c [] gs ds) : Rt (dMake c m g f δ) (.obj c gs) := Rt.bind hf (Rt.need hm (mk_r h))
theorem make_x (hf : Rt (f δ) ds) (hm : ds.length = m) (h : InX g c [] x ds) : Rx (dMake c m g f δ) x := Rx.bind hf (Rx.need hm (mk_x h))
theorem makeK_r {is : List Nat} {n : Nat} {zs : List D} (hf : Rt (f δ) zs) (hm : zs.length = n ∧ (pick is zs).length = m) (e : pick is zs = ds) (h : In g c [] gs ds) : Rt (dMakeK c n is m g f δ) (.obj c gs) := Rt.bind hf (Rt.need hm (by rw [e]; exact mk_r h))
theorem makeK_x {is : List Nat} {n : Nat} {zs : List D} (hf : Rt (f δ) zs) (hm : zs.length = n ∧ (pick is zs).length = m) (e : pick is zs = ds) (h : InX g c [] x ds) : Rx (dMakeK c n is m g f δ) x := Rx.bind hf (Rx.need hm (by rw [e]; exact mk_x h))
theorem setF_w {cl : List Str} {fl : Str} {fo fe : List Sl → W D} {d : D} {i : Nat} {s : S} {Q : S → Out → Prop} {E : S → Xn → Prop} (he : Rt (fe δ) d) (ho : Rt (fo δ) (.mu i)) (hs : s.st[i]? = some (.ins c gs)) (hc : c ∈ cl) (hl : gs.length < 900)
    (q : ∀ t : S, t.n = s.n → s.st.set i (.ins c (putG fl d gs)) <+: t.st → Q t (.nx δ)) : (dSetF cl fl fo fe δ).wp s Q E := by
  refine he s _ E fun t1 e1 p1 => ho t1 _ E fun t2 e2 p2 => ?_
  have hs2 := pre_get (p1.trans p2) hs
  exact ⟨_, hs2, ⟨hc, hl⟩, q ⟨t2.n, _⟩ (e2.trans e1) (pre_set (p1.trans p2) hs)⟩
theorem in_init {N cl : List Str} {b : List Sl → W Out} {fa : List Sl → W (List D)} {m2 : Nat} {g2 : List D → W D} {es : List D} {δ : Nat → List Sl} (hb : ∀ i, Rt (b (startD N (.mu i :: ds))) (.nx (δ i))) (h0 : ∀ i, (δ i)[0]? = some (some (.mu i))) (hc : c ∈ cl)
    (ha : ∀ i, Rt (fa (δ i)) es) (hm : es.length = m2) (h : In g2 c gs0 gs1 es) : In (dInit N cl b fa m2 g2) c gs0 gs1 ds := fun s i Q E hs q => by
  refine hb i s _ E fun t1 e1 p1 => ?_
  have v0 : dVar 0 (δ i) = W.ret (.mu i) := by unfold dVar; rw [h0 i]
  show (W.bind (dVar 0 (δ i)) _).wp t1 Q E
  rw [v0]
  refine ⟨_, pre_get p1 hs, hc, ha i t1 _ (fun _ _ => False) fun t2 e2 p2 => ⟨hm, h t2 i _ E (pre_get (p1.trans p2) hs) fun t3 e3 p3 => q t3 (e3.trans (e2.trans e1)) ((pre_set (p1.trans p2) hs).trans p3)⟩⟩
theorem in_initX {N cl : List Str} {b : List Sl → W Out} {fa : List Sl → W (List D)} {m2 : Nat} {g2 : List D → W D} (hb : ∀ i, Rx (b (startD N (.mu i :: ds))) x) : InX (dInit N cl b fa m2 g2) c gs0 x ds := fun s i Q E hs q => hb i s _ E q
theorem in_initY {N cl : List Str} {b : List Sl → W Out} {fa : List Sl → W (List D)} {m2 : Nat} {g2 : List D → W D} {es : List D} {δ : Nat → List Sl} (hb : ∀ i, Rt (b (startD N (.mu i :: ds))) (.nx (δ i))) (h0 : ∀ i, (δ i)[0]? = some (some (.mu i))) (hc : c ∈ cl)
    (ha : ∀ i, Rt (fa (δ i)) es) (hm : es.length = m2) (h : InX g2 c gs0 x es) : InX (dInit N cl b fa m2 g2) c gs0 x ds := fun s i Q E hs q => by
  refine hb i s _ E fun t1 e1 p1 => ?_
  have v0 : dVar 0 (δ i) = W.ret (.mu i) := by unfold dVar; rw [h0 i]
  show (W.bind (dVar 0 (δ i)) _).wp t1 Q E
  rw [v0]
  refine ⟨_, pre_get p1 hs, hc, ha i t1 _ (fun _ _ => False) fun t2 e2 p2 => ⟨hm, h t2 i _ E (pre_get (p1.trans p2) hs) fun t3 e3 p3 => q t3 (e3.trans (e2.trans e1)) ((p1.trans p2).trans p3)⟩⟩
end
/-! ### own lists -/
theorem own2 {fl : List Sl → W (List D)} {f : List Sl → W D} {rest : List Sl → W Out} {δ : List Sl} {i B : Nat} {xs : List D} {y : D} {P : Out → Prop} (hi : i < δ.length) (h1 : Rt (fl δ) xs) (hx : xs.length < 4000) (h2 : ∀ j, Rt (f (δ.set i (some (.mu j)))) y) (h3 : Tm B (rest (δ.set i (some (.lst (xs ++ [y]))))) P) :
    Tm B (dSeq (dNewL fl i) (dSeq (dApp i f) (fun δ => (iceD i δ).bind rest)) δ) P := fun s E hn => by
  have z4 : xs.length < sizeLine := by rw [sizeLine_eq]; omega
  refine h1 s _ E fun t1 e1 p1 => ⟨by omega, ?_⟩
  show (W.bind (dApp i f (δ.set i (some (.mu t1.st.length)))) _).wp ⟨t1.n, t1.st ++ [.lst xs]⟩ _ E
  have v0 : dVar i (δ.set i (some (.mu t1.st.length))) = W.ret (.mu t1.st.length) := by unfold dVar; rw [List.getElem?_set_self hi]
  unfold dApp
  rw [v0]
  refine ⟨.lst xs, new_get, h2 _ ⟨t1.n, t1.st ++ [.lst xs]⟩ _ E fun t2 e2 p2 => ⟨.lst xs, pre_get p2 new_get, z4, ?_⟩⟩
  show (W.bind (iceD i (δ.set i (some (.mu t1.st.length)))) rest).wp ⟨t2.n, t2.st.set t1.st.length (.lst (xs ++ [y]))⟩ _ E
  unfold iceD
  rw [List.getElem?_set_self hi]
  have hp : t1.st ++ [.lst (xs ++ [y])] <+: t2.st.set t1.st.length (.lst (xs ++ [y])) := by
    have := pre_set (b := .lst (xs ++ [y])) p2 (new_get (l := t1.st) (o := .lst xs))
    simpa using this
  refine ⟨.lst (xs ++ [y]), pre_get hp new_get, ?_⟩
  show (rest ((δ.set i (some (.mu t1.st.length))).set i (some (.lst (xs ++ [y]))))).wp ⟨t2.n, (t2.st.set t1.st.length (.lst (xs ++ [y]))).set t1.st.length .gone⟩ _ E
  rw [List.set_set]
  have hp2 : t1.st <+: (t2.st.set t1.st.length (.lst (xs ++ [y]))).set t1.st.length .gone := by
    have := pre_set (b := MO.gone) hp (new_get (l := t1.st) (o := .lst (xs ++ [y])))
    refine List.IsPrefix.trans ?_ this
    simp
  have e2 : t2.n = t1.n := e2
  refine (rest _).mono (fun j c ⟨h3, hp3, h4⟩ => ⟨?_, (p1.trans hp2).trans hp3, h4⟩) (fun _ _ z => z) (h3 ⟨t2.n, _⟩ E (by show B ≤ t2.n; omega))
  have h3 : t2.n ≤ j.n + B := h3
  omega
/-! ### comprehensions, loops -/
section
variable {i : Nat} {ft : List Sl → W Bool} {fe : List Sl → W D} {δ : List Sl}
theorem lcD_r {p : D → Bool} {g : D → D} : ∀ (ds : List D) (k : Nat), k + ds.length ≤ sizeLine → (∀ d ∈ ds, Rt (ft (δ.set i (some d))) (p d)) → (∀ d ∈ ds, p d = true → Rt (fe (δ.set i (some d))) (g d)) → Rt (lcD (dName i) ft fe δ ds k) ((ds.filter p).map g)
  | [], _, _, _, _ => Rt.ret
  | d :: ds, k, hk, h1, h2 => by
    have hk2 : k + 1 + ds.length ≤ sizeLine := by rw [List.length_cons] at hk; omega
    refine Rt.bind Rt.ret (Rt.bind (h1 d List.mem_cons_self) ?_)
    cases e : p d with
    | false =>
      rw [List.filter_cons_of_neg (by rw [e]; decide)]
      exact lcD_r ds k (by omega) (fun x hx => h1 x (List.mem_cons_of_mem _ hx)) fun x hx => h2 x (List.mem_cons_of_mem _ hx)
    | true =>
      rw [List.filter_cons_of_pos e, List.map_cons]
      refine Rt.bind (h2 d List.mem_cons_self e) (Rt.need (by omega) (Rt.bind (lcD_r ds (k + 1) hk2 (fun x hx => h1 x (List.mem_cons_of_mem _ hx)) fun x hx => h2 x (List.mem_cons_of_mem _ hx)) Rt.ret))
theorem lcD_t {B : Nat} {P : D → Prop} : ∀ (ds : List D) (k : Nat), k + ds.length ≤ sizeLine → (∀ d ∈ ds, Rt (ft (δ.set i (some d))) true) → (∀ d ∈ ds, Tm B (fe (δ.set i (some d))) P) → Tm (B * ds.length) (lcD (dName i) ft fe δ ds k) (fun ys => ys.length = ds.length ∧ ∀ y ∈ ys, P y)
  | [], _, _, _, _ => Tm.ret ⟨rfl, fun y z => nomatch z⟩
  | d :: ds, k, hk, h1, h2 => by
    have hk2 : k + 1 + ds.length ≤ sizeLine := by rw [List.length_cons] at hk; omega
    refine Tm.bindR Rt.ret (Tm.bindR (h1 d List.mem_cons_self) ?_)
    refine Tm.bind (h2 d List.mem_cons_self) (fun y hy => Tm.need (by omega) (Tm.bind (lcD_t ds (k + 1) hk2 (fun x hx => h1 x (List.mem_cons_of_mem _ hx)) fun x hx => h2 x (List.mem_cons_of_mem _ hx)) (fun ys hys => Tm.ret (B := 0) ?_) (Nat.le_refl _))) (by rw [List.length_cons, Nat.mul_succ, Nat.add_zero, Nat.add_comm]; exact Nat.le_refl _)
    refine ⟨by rw [List.length_cons, List.length_cons, hys.1], fun z hz => ?_⟩
    rcases List.mem_cons.mp hz with rfl | hz
    · exact hy
    · exact hys.2 z hz
/-- a loop that goes on to its end -/
theorem forD_t {B : Nat} {dg : D → List Sl → W (List Sl)} {gb : List Sl → W Out} {I : List D → List Sl → Prop} : ∀ (ds : List D) (δ : List Sl), I ds δ → (∀ d r δ, I (d :: r) δ → Tm B ((dg d δ).bind gb) (fun o => ∃ ε, o = .nx ε ∧ I r ε)) → Tm (B * ds.length) (forD dg gb ds δ) (fun o => ∃ ε, o = .nx ε ∧ I [] ε)
  | [], δ, h, _ => Tm.ret ⟨δ, rfl, h⟩
  | d :: ds, δ, h, hs => by
    have e : forD dg gb (d :: ds) δ = ((dg d δ).bind gb).bind fun o => match o with | .nx ε => forD dg gb ds ε | .ct ε => forD dg gb ds ε | .bk ε => W.ret (.nx ε) | .rt d => W.ret (.rt d) := rfl
    rw [e]
    refine Tm.bind (hs d ds δ h) (fun o ho => ?_) (by rw [List.length_cons, Nat.mul_succ, Nat.add_comm]; exact Nat.le_refl _)
    obtain ⟨ε, rfl, hI⟩ := ho
    exact forD_t ds ε hI hs
end
/-! ### the combinators -/
section
variable {δ ε : List Sl} {d x y z : D} {ds : List D} {i j mm : Nat} {f fa fb fc : List Sl → W D} {t ta tb : List Sl → W Bool} {fl fr' : List Sl → W (List D)} {g h : List Sl → W Out} {b c : Bool} {o u : Out}
theorem Rt.var (e : δ[i]? = some (some d)) : Rt (dVar i δ) d := by unfold dVar; rw [e]; exact Rt.ret
theorem Rt.cC : Rt (dC d δ) d := Rt.ret
theorem Rt.op2 {g : D → D → W D} (ha : Rt (fa δ) x) (hb : Rt (fb δ) y) (hg : Rt (g x y) z) : Rt (dOp2 g fa fb δ) z := Rt.bind ha (Rt.bind hb hg)
theorem Rt.op1 {g : D → W D} (ha : Rt (fa δ) x) (hg : Rt (g x) z) : Rt (dOp1 g fa δ) z := Rt.bind ha hg
theorem Rt.opn {g : List D → W D} (ha : Rt (fl δ) ds) (hg : Rt (g ds) z) : Rt (dOpn g fl δ) z := Rt.bind ha hg
theorem Rt.nil : Rt (dNil δ) [] := Rt.ret
theorem Rt.cons (ha : Rt (fa δ) x) (hr : Rt (fl δ) ds) : Rt (dCons fa fl δ) (x :: ds) := Rt.bind ha (Rt.bind hr Rt.ret)
theorem Rt.tup (ha : Rt (fl δ) ds) (hz : ds.length ≤ sizeLine) : Rt (dTup fl δ) (.tup ds) := Rt.bind ha (Rt.need hz Rt.ret)
theorem Rt.lst (ha : Rt (fl δ) ds) (hz : ds.length ≤ sizeLine) : Rt (dLst fl δ) (.lst ds) := Rt.bind ha (Rt.need hz Rt.ret)
theorem Rt.test (ha : Rt (fa δ) (.bl b)) : Rt (dTest fa δ) b := Rt.bind ha Rt.ret
theorem Rt.tru (ha : Rt (fa δ) x) (hb : Rt (truD x) b) : Rt (dTru fa δ) b := Rt.bind ha hb
theorem Rt.andF (ha : Rt (ta δ) false) : Rt (dAnd ta tb δ) false := Rt.bind ha Rt.ret
theorem Rt.andT (ha : Rt (ta δ) true) (hb : Rt (tb δ) b) : Rt (dAnd ta tb δ) b := Rt.bind ha hb
theorem Rt.orT (ha : Rt (ta δ) true) : Rt (dOr ta tb δ) true := Rt.bind ha Rt.ret
theorem Rt.orF (ha : Rt (ta δ) false) (hb : Rt (tb δ) b) : Rt (dOr ta tb δ) b := Rt.bind ha hb
theorem Rt.not (ha : Rt (ta δ) b) : Rt (dNot ta δ) (!b) := Rt.bind ha Rt.ret
theorem Rt.andV (ha : Rt (fa δ) (.bl b)) (hb : b = true → Rt (fb δ) (.bl c)) : Rt (dAndV fa fb δ) (.bl (b && c)) := by
  refine Rt.bind ha (Rt.bind Rt.ret ?_)
  cases b with
  | true => exact hb rfl
  | false => exact Rt.ret
theorem Rt.orV (ha : Rt (fa δ) (.bl b)) (hb : b = false → Rt (fb δ) (.bl c)) : Rt (dOrV fa fb δ) (.bl (b || c)) := by
  refine Rt.bind ha (Rt.bind Rt.ret ?_)
  cases b with
  | true => exact Rt.ret
  | false => exact hb rfl
theorem Rt.notV (ha : Rt (fa δ) (.bl b)) : Rt (dNotV fa δ) (.bl (!b)) := Rt.bind ha (Rt.bind Rt.ret Rt.ret)
theorem Rt.ifE (ht : Rt (t δ) b) (h : Rt (match b with | true => fa δ | false => fb δ) d) : Rt (dIfE t fa fb δ) d := Rt.bind ht h
theorem Rt.seq (hg : Rt (g δ) (.nx ε)) (hh : Rt (h ε) o) : Rt (dSeq g h δ) o := Rt.bind hg hh
theorem Rt.seqR (hg : Rt (g δ) (.rt d)) : Rt (dSeq g h δ) (.rt d) := Rt.bind hg Rt.ret
theorem Rt.next : Rt (dNext δ) (.nx δ) := Rt.ret
theorem Rt.asg (hf : Rt (f δ) d) : Rt (dAsg f (dName i) δ) (.nx (δ.set i (some d))) := Rt.bind hf (Rt.bind Rt.ret Rt.ret)
theorem Rt.rets (hf : Rt (f δ) d) : Rt (dRet f δ) (.rt d) := Rt.bind hf Rt.ret
theorem Rt.drop (hf : Rt (f δ) d) : Rt (dDrop f δ) (.nx δ) := Rt.bind hf Rt.ret
theorem Rt.ifT (ht : Rt (t δ) true) (hg : Rt (g δ) o) : Rt (dIf t g h δ) o := Rt.bind ht hg
theorem Rt.ifF (ht : Rt (t δ) false) (hg : Rt (h δ) o) : Rt (dIf t g h δ) o := Rt.bind ht hg
theorem Rt.call {G : List D → W D} (hf : Rt (fl δ) ds) (hm : ds.length = mm) (hg : Rt (G ds) d) : Rt (dCall mm G fl δ) d := Rt.bind hf (Rt.need hm hg)
theorem Rt.eqT {a : Str} : Rt (eqD (.str a) (.str a)) (.bl true) := Rt.ret.cast (by simp)
theorem Rt.eqF {a b : Str} (h : a ≠ b) : Rt (eqD (.str a) (.str b)) (.bl false) := Rt.ret.cast (by simp [h])
theorem Rt.bodyR {N : List Str} {bd : List Sl → W Out} (hb : Rt (bd (startD N ds)) (.rt d)) : Rt (dBody N bd ds) d := Rt.bind hb Rt.ret
theorem Rt.bodyN {N : List Str} {bd : List Sl → W Out} (hb : Rt (bd (startD N ds)) (.nx ε)) : Rt (dBody N bd ds) .non := Rt.bind hb Rt.ret
theorem Rt.ixT {xs : List D} {k : Int} (e : atI xs k = some d) : Rt (ixD (.tup xs) (.int k)) d := by show Rt (match atI xs k with | some d => W.ret d | none => W.stuck) d; rw [e]; exact Rt.ret
theorem Rt.ixL {xs : List D} {k : Int} (e : atI xs k = some d) : Rt (ixD (.lst xs) (.int k)) d := by show Rt (match atI xs k with | some d => W.ret d | none => W.stuck) d; rw [e]; exact Rt.ret
theorem Rt.fld {c : Str} {gs : List (Str × D)} {x : Str} (ha : Rt (fa δ) (.obj c gs)) (e : gs.lookup x = some d) : Rt (dFld x fa δ) d := Rt.bind ha (Rt.bind Rt.ret (by dsimp only; rw [e]; exact Rt.ret))
theorem Rt.prop {c : Str} {gs : List (Str × D)} {tb : Tb} {G : List D → W D} (ha : Rt (fa δ) (.obj c gs)) (e : tb.lookup c = some G) (hg : Rt (G [.obj c gs]) d) : Rt (dProp tb fa δ) d := Rt.bind ha (Rt.bind Rt.ret (by dsimp only; rw [e]; exact hg.calm))
theorem Rt.meth {c m : Str} {gs : List (Str × D)} {tb : Tb} {G : List D → W D} (ha : Rt (fa δ) (.obj c gs)) (hn : gs.lookup m = none) (e : tb.lookup c = some G) (hf : Rt (fl δ) ds) (hm : ds.length = mm) (hg : Rt (G (.obj c gs :: ds)) d) : Rt (dMeth m mm tb fa fl δ) d :=
  Rt.bind ha (Rt.bind Rt.ret (Rt.need hn (by dsimp only; rw [e]; exact Rt.bind hf (Rt.need hm hg))))
theorem Rt.ms {G : Str → List D → W D} {a : Str} (ho : Rt (fa δ) (.str a)) (hf : Rt (fl δ) ds) (hg : Rt (G a ds) d) : Rt (dMs G fa fl δ) d := Rt.bind ho (Rt.bind hf hg)
theorem Rt.par (hf : Rt (fl δ) [x, y]) : Rt (dPar i j fl δ) (.nx ((δ.set i (some x)).set j (some y))) := Rt.bind hf Rt.ret
theorem Rt.noPart : Rt (dNoPart δ) none := Rt.ret
theorem Rt.part {k : Int} (hf : Rt (f δ) (.int k)) : Rt (dPart f δ) (some k) := Rt.bind hf Rt.ret
theorem Rt.sl {lo hi : List Sl → W (Option Int)} {l k : Option Int} (ha : Rt (fa δ) x) (hl : Rt (lo δ) l) (hh : Rt (hi δ) k) (hg : Rt (slD x l k) d) : Rt (dSl fa lo hi δ) d := Rt.bind ha (Rt.bind hl (Rt.bind hh hg))
theorem Rt.chT {g g2 : D → D → W D} (ha : Rt (fa δ) x) (hb : Rt (fb δ) y) (hg : Rt (g x y) (.bl true)) (hc : Rt (fc δ) z) (hg2 : Rt (g2 y z) d) : Rt (dChain g g2 fa fb fc δ) d := Rt.bind ha (Rt.bind hb (Rt.bind hg (Rt.bind Rt.ret (Rt.bind hc hg2))))
theorem Rt.chF {g g2 : D → D → W D} (ha : Rt (fa δ) x) (hb : Rt (fb δ) y) (hg : Rt (g x y) (.bl false)) : Rt (dChain g g2 fa fb fc δ) (.bl false) := Rt.bind ha (Rt.bind hb (Rt.bind hg (Rt.bind Rt.ret Rt.ret)))
end
section
variable {δ : List Sl} {f fa fb : List Sl → W D} {fi : List Sl → W (List D)} {ds l : List D} {i : Nat} {ft : List Sl → W Bool} {fe : List Sl → W D} {dg : D → List Sl → W (List Sl)} {vs : List Nat}
theorem rLc (hi : Rt (fi δ) ds) (hl : Rt (lcD dg ft fe (wipeD δ vs) ds 0) l) : Rt (dLc fi dg ft fe vs δ) (.lst l) := Rt.bind hi (Rt.bind hl.calm Rt.ret)
theorem rIS {x : Str} (h : Rt (f δ) (.str x)) : Rt (dIS f δ) (x.cps.toList.map fun c => .str ⟨#[c]⟩) := Rt.bind h Rt.ret
theorem rIT {xs : List D} (h : Rt (f δ) (.tup xs)) : Rt (dIT f δ) xs := Rt.bind h Rt.ret
theorem rIL {xs : List D} (h : Rt (f δ) (.lst xs)) : Rt (dIL f δ) xs := Rt.bind h Rt.ret
theorem rIR {k : Int} (h : Rt (fi δ) [.int k]) (h0 : 0 ≤ k) (h1 : k < 2 ^ 60) : Rt (dIR1 fi δ) (rangeD 0 k.toNat) := Rt.bind h (Rt.need ⟨by omega, by omega⟩ Rt.ret)
theorem Rt.eqO {tb : Tb} {tys : List Lx.Ky} {neg b : Bool} {c : Str} {gs : List (Str × D)} {g : List D → W D} {y : D} {t : Lx.Ky} (e : tb.lookup c = some g) (ht : Rt (tyW y) t) (hm : t ∈ tys) (h : Rt (g [.obj c gs, y]) (.bl b)) : Rt (eqO tb tys neg (.obj c gs) y) (.bl (if neg then !b else b)) := by
  unfold Ly.eqO
  dsimp only
  rw [e]
  exact Rt.bind ht (Rt.need hm (Rt.bind h.calm (Rt.bind Rt.ret Rt.ret)))
end
end Ly
set_option Elab.async false
set_option linter.all false
set_option maxRecDepth 100000
set_option maxHeartbeats 4000000
/-! Ly16: texts, lists, steps that may draw: for plain laws. -/
namespace Ly
open PySem L2
open Lx (atI_in shaped_ints inS cutL revS uniq)
theorem bools_map {α : Type} (q : α → Bool) : ∀ l : List α, bools (l.map fun a => D.bl (q a)) = some (l.map q)
  | [] => rfl
  | a :: r => by
    show (bools (r.map fun a => D.bl (q a))).map (q a :: ·) = _
    rw [bools_map q r]; rfl
abbrev LET : Str := " !\"#$&'()*+,-./0123456789:;<=>?@ABCDEFGHIJKLMNOPQRSTUVWXYZ[\\]^_`abcdefghijklmnopqrstuvwxyz{|}~"
def lets (x : Str) : Prop := ∀ c ∈ x.cps.toList, c ∈ LET.cps.toList
theorem len_cps (x : Str) : x.length = x.cps.toList.length := by simp [Str.length]
theorem inS_one (c : Nat) (y : Str) : inS ⟨#[c]⟩ y = decide (c ∈ y.cps.toList) := PySem.StrLaws.found_one y c
theorem small {n : Nat} (h : n ≤ 4000) : n ≤ sizeLine := by rw [sizeLine_eq]; omega
theorem inD_s {x y : Str} : Rt (inD false (.str x) (.str y)) (.bl (inS x y)) := Rt.ret
theorem len_s {x : Str} (h : x.length ≤ 4000) : Rt (lenD [.str x]) (.int x.length) := Rt.need (small h) Rt.ret
theorem lk_pre {α : Type} {c : Str} {b : α} : ∀ {pre post : List (Str × α)} {ns : List Str}, pre.map (·.1) = ns → (ns.all fun n => !(c == n)) = true → (pre ++ (c, b) :: post).lookup c = some b
  | [], post, _, _, _ => by rw [List.nil_append, List.lookup_cons, beq_self_eq_true]
  | (a, x) :: pre, post, ns, e, h => by
    subst e
    simp only [List.map_cons, List.all_cons, Bool.and_eq_true, Bool.not_eq_true'] at h
    rw [List.cons_append, List.lookup_cons, h.1]
    exact lk_pre (ns := pre.map (·.1)) rfl h.2
theorem lk_same {α : Type} {c : Str} {b : α} : ∀ {cs : List Str}, cs.contains c = true → (cs.map fun x => (x, b)).lookup c = some b
  | [], h => by cases h
  | a :: r, h => by
    rw [List.map_cons, List.lookup_cons]
    cases e : (c == a) with
    | true => rfl
    | false =>
      rw [List.contains_cons, e, Bool.false_or] at h
      exact lk_same h
theorem lcM {α : Type} {i : Nat} {δ : List Sl} {ft : List Sl → W Bool} {fe : List Sl → W D} (φ : α → D) (p : α → Bool) (g : α → D) : ∀ (hs : List α) (k : Nat), k + hs.length ≤ sizeLine → (∀ h ∈ hs, Rt (ft (δ.set i (some (φ h)))) (p h)) → (∀ h ∈ hs, p h = true → Rt (fe (δ.set i (some (φ h)))) (g h)) → Rt (lcD (dName i) ft fe δ (hs.map φ) k) ((hs.filter p).map g)
  | [], _, _, _, _ => Rt.ret
  | d :: ds, k, hk, h1, h2 => by
    have hk2 : k + 1 + ds.length ≤ sizeLine := by rw [List.length_cons] at hk; omega
    refine Rt.bind Rt.ret (Rt.bind (h1 d List.mem_cons_self) ?_)
    cases e : p d with
    | false =>
      rw [List.filter_cons_of_neg (by rw [e]; decide)]
      exact lcM φ p g ds k (by omega) (fun x hx => h1 x (List.mem_cons_of_mem _ hx)) fun x hx => h2 x (List.mem_cons_of_mem _ hx)
    | true =>
      rw [List.filter_cons_of_pos e, List.map_cons]
      refine Rt.bind (h2 d List.mem_cons_self e) (Rt.need (by omega) (Rt.bind (lcM φ p g ds (k + 1) hk2 (fun x hx => h1 x (List.mem_cons_of_mem _ hx)) fun x hx => h2 x (List.mem_cons_of_mem _ hx)) Rt.ret))
theorem lcY {α : Type} {i : Nat} {δ : List Sl} {fe : List Sl → W D} (φ : α → D) (g : α → D) (hs : List α) (hl : hs.length ≤ 4000) (h : ∀ h ∈ hs, Rt (fe (δ.set i (some (φ h)))) (g h)) : Rt (lcD (dName i) dYes fe δ (hs.map φ) 0) (hs.map g) :=
  (lcM φ (fun _ => true) g hs 0 (small (by omega)) (fun _ _ => Rt.ret) fun x hx _ => h x hx).cast (by rw [List.filter_eq_self.mpr (fun _ _ => rfl)])
theorem toPs_int : ∀ ns : List Int, toPs (ns.map D.int) = some (ns.map PyData.int)
  | [] => by simp only [List.map_nil]; rw [toPs]
  | n :: r => by simp only [List.map_cons]; rw [toPs, toPs_int r, toP]; rfl
theorem toPs_str : ∀ ns : List Str, toPs (ns.map D.str) = some (ns.map PyData.str)
  | [] => by simp only [List.map_nil]; rw [toPs]
  | n :: r => by simp only [List.map_cons]; rw [toPs, toPs_str r, toP]; rfl
theorem toP_nil : toP (.lst []) = some (.list []) := by rw [toP, toPs]; rfl
def asc (x : Str) : Prop := ∀ c ∈ x.cps.toList, c < 128
theorem ok_one {c : Nat} (h : c < 128) : PyData.strOk ⟨#[c]⟩ = true := by
  show (#[c] : Array Nat).all (· < 0x110000) = true
  simp
  omega
theorem shaped_signs {cs : List Nat} (h : ∀ c ∈ cs, c < 128) : SeqAt.shaped (.list ((cs.map fun c => (⟨#[c]⟩ : Str)).map .str)) = true := by
  have h1 : ∀ cs : List Nat, (∀ c ∈ cs, c < 128) → PyData.canLayAll0 ((cs.map fun c => (⟨#[c]⟩ : Str)).map .str) = true := fun cs => by
    induction cs with
    | nil => exact fun _ => rfl
    | cons c r ih =>
      intro h
      show (PyData.strOk ⟨#[c]⟩ && PyData.canLayAll0 ((r.map fun c => (⟨#[c]⟩ : Str)).map .str)) = true
      rw [ok_one (h c List.mem_cons_self), ih fun d hd => h d (List.mem_cons_of_mem _ hd)]
      rfl
  have h3 : ∀ cs : List Str, PyData.depthAll (cs.map .str) = 0 := fun cs => by
    induction cs with
    | nil => rfl
    | cons c r ih =>
      show max (PyData.depth (.str c)) (PyData.depthAll (r.map PyData.str)) = 0
      rw [ih]; rfl
  have h2 : (PyData.list ((cs.map fun c => (⟨#[c]⟩ : Str)).map .str)).depth ≤ 64 := by
    show PyData.depthAll ((cs.map fun c => (⟨#[c]⟩ : Str)).map .str) + 1 ≤ 64
    rw [h3]
    decide
  exact Bool.and_eq_true_iff.mpr ⟨h1 cs h, decide_eq_true h2⟩
theorem ne_ints (ns : List Int) : Rt (neD (.lst (ns.map D.int)) (.lst [])) (.bl (!ns.isEmpty)) := by
  show Rt (match toP (.lst (ns.map D.int)), toP (.lst []) with | some a, some b => W.need (SeqAt.shaped a = true ∧ SeqAt.shaped b = true) (W.ret (D.bl (!PyData.eqv a b))) | _, _ => W.stuck) _
  rw [toP_nil, toP, toPs_int]
  refine Rt.need ⟨shaped_ints ns, rfl⟩ (Rt.ret.cast ?_)
  cases ns <;> rfl
theorem eq_signs {cs : List Nat} (h : ∀ c ∈ cs, c < 128) : Rt (eqD (.lst ((cs.map fun c => (⟨#[c]⟩ : Str)).map D.str)) (.lst [])) (.bl cs.isEmpty) := by
  show Rt (match toP (.lst ((cs.map fun c => (⟨#[c]⟩ : Str)).map D.str)), toP (.lst []) with | some a, some b => W.need (SeqAt.shaped a = true ∧ SeqAt.shaped b = true) (W.ret (D.bl (PyData.eqv a b))) | _, _ => W.stuck) _
  rw [toP_nil, toP, toPs_str]
  refine Rt.need ⟨shaped_signs h, rfl⟩ (Rt.ret.cast ?_)
  cases cs <;> rfl
/-! cuts -/
theorem cut_mid (r : Str) (k m : Nat) : cutS r (some (k : Int)) (some ((k + m : Nat) : Int)) = ⟨(((r.cps.toList).drop k).take m).toArray⟩ := by
  unfold cutS
  rw [HT.sIx_nat, HT.sIx_nat]
  congr 2
  have hl : r.length = (r.cps.toList).length := len_cps r
  rw [hl]
  by_cases h : k ≤ (r.cps.toList).length
  · rw [Nat.min_eq_left h]
    rw [List.take_eq_take_iff, List.length_drop]
    omega
  · rw [Nat.min_eq_right (show r.cps.toList.length ≤ k by omega), List.drop_length, List.take_nil, List.drop_eq_nil_of_le (show r.cps.toList.length ≤ k by omega), List.take_nil]
theorem cut_to (r : Str) (m : Nat) : cutS r none (some (m : Int)) = ⟨((r.cps.toList).take m).toArray⟩ := by
  unfold cutS
  rw [HT.sIx_none, HT.sIx_nat, Nat.sub_zero, List.drop_zero]
  congr 2
  have hl : r.length = r.cps.toList.length := len_cps r
  rw [hl, List.take_eq_take_iff]
  omega
theorem cut_from (r : Str) (m : Nat) : cutS r (some (m : Int)) none = ⟨((r.cps.toList).drop m).toArray⟩ := by
  unfold cutS
  rw [HT.sIx_none, HT.sIx_nat]
  congr 1
  have hl : r.length = (r.cps.toList).length := len_cps r
  rw [hl]
  by_cases h : m ≤ (r.cps.toList).length
  · rw [Nat.min_eq_left h, List.take_of_length_le (by rw [List.length_drop]; omega)]
  · rw [Nat.min_eq_right (by omega), List.drop_length, List.take_nil, List.drop_eq_nil_of_le (by omega)]
theorem str_eq (l : List Nat) (x : Str) : decide ((⟨l.toArray⟩ : Str) = x) = (l == x.cps.toList) := by
  rw [Bool.eq_iff_iff, decide_eq_true_iff, beq_iff_eq]
  constructor
  · intro h; rw [← h]
  · intro h; rw [h]
theorem sub_mid (r x : Str) (k : Nat) : decide (cutS r (some (k : Int)) (some ((k + x.length : Nat) : Int)) = x) = Builtin.Str.subAt r x k := by rw [cut_mid, str_eq, PySem.StrLaws.subAt_eq]
theorem sub_lt {r x : Str} {k : Nat} (h1 : 1 ≤ x.length) (h : Builtin.Str.subAt r x k = true) : k + x.length ≤ r.length := by
  rw [PySem.StrLaws.subAt_eq, beq_iff_eq] at h
  have h2 := congrArg List.length h
  rw [List.length_take, List.length_drop, ← len_cps, ← len_cps] at h2
  omega
theorem rangeD_eq : ∀ (n : Nat) (lo : Int), rangeD lo n = (List.range n).map fun (i : Nat) => D.int (lo + i)
  | 0, _ => rfl
  | n + 1, lo => by
    rw [List.range_succ_eq_map, List.map_cons, List.map_map]
    show D.int lo :: rangeD (lo + 1) n = _
    rw [rangeD_eq n (lo + 1)]
    congr 1
    · simp
    · apply List.map_congr_left
      intro i _
      show D.int (lo + 1 + (i : Int)) = D.int (lo + ((i + 1 : Nat) : Int))
      congr 1; omega
theorem slS {r : Str} {l h : Option Int} (hr : r.length ≤ 4000) : Rt (slD (.str r) l h) (.str (cutS r l h)) := Rt.need (small hr) Rt.ret
/-! ### steps that may draw -/
section
variable {δ ε : List Sl} {d x y : D} {ds : List D} {i mm B B1 B2 : Nat} {f fa fb : List Sl → W D} {fl : List Sl → W (List D)} {g h : List Sl → W Out} {P : D → Prop} {Q : Out → Prop} {R : List D → Prop}
theorem tAsg {S : Out → Prop} (hf : Tm B1 (f δ) P) (hh : ∀ d, P d → Tm B2 (h (δ.set i (some d))) S) (hb : B1 + B2 ≤ B) : Tm B (dSeq (dAsg f (dName i)) h δ) S :=
  Tm.bind (Q := fun o => ∃ d, P d ∧ o = .nx (δ.set i (some d))) (Tm.bind (B2 := 0) hf (fun d hd => Tm.bindR Rt.ret (Tm.ret ⟨d, hd, rfl⟩)) (Nat.le_refl _)) (fun o ho => by obtain ⟨d, hd, rfl⟩ := ho; exact hh d hd) hb
theorem tAsgR {S : Out → Prop} (hf : Rt (f δ) d) (hh : Tm B (h (δ.set i (some d))) S) : Tm B (dSeq (dAsg f (dName i)) h δ) S := Tm.bindR (Rt.asg hf) hh
theorem tRet {S : Out → Prop} (hf : Tm B (f δ) P) (hs : ∀ d, P d → S (.rt d)) : Tm B (dRet f δ) S := Tm.bind (B2 := 0) hf (fun d hd => Tm.ret (hs d hd)) (Nat.le_refl _)
theorem tBody {N : List Str} {bd : List Sl → W Out} (hb : Tm B (bd (startD N ds)) (fun o => ∃ d, o = .rt d ∧ P d)) : Tm B (dBody N bd ds) P := Tm.bind (B2 := 0) hb (fun o ho => by obtain ⟨d, rfl, hd⟩ := ho; exact Tm.ret hd) (Nat.le_refl _)
theorem tCall {G : List D → W D} (hf : Rt (fl δ) ds) (hm : ds.length = mm) (hg : Tm B (G ds) P) : Tm B (dCall mm G fl δ) P := Tm.bindR hf (Tm.need hm hg)
theorem tCons {P2 : List D → Prop} (ha : Tm B1 (fa δ) P) (hr : Tm B2 (fl δ) P2) (hb : B1 + B2 ≤ B) : Tm B (dCons fa fl δ) (fun ds => ∃ x r, ds = x :: r ∧ P x ∧ P2 r) :=
  Tm.bind ha (fun x hx => Tm.bind (B2 := 0) hr (fun r hr => Tm.ret ⟨x, r, rfl, hx, hr⟩) (Nat.le_refl _)) hb
theorem tNil : Tm B (dNil δ) (fun ds => ds = []) := Tm.of Rt.nil rfl
theorem tIfT {t : List Sl → W Bool} {S : Out → Prop} (ht : Rt (t δ) true) (hg : Tm B (g δ) S) : Tm B (dIf t g h δ) S := Tm.bindR ht hg
theorem tIfF {t : List Sl → W Bool} {S : Out → Prop} (ht : Rt (t δ) false) (hg : Tm B (h δ) S) : Tm B (dIf t g h δ) S := Tm.bindR ht hg
theorem tSeqF {t : List Sl → W Bool} {S : Out → Prop} (ht : Rt (t δ) false) (hh : Tm B (h δ) S) : Tm B (dSeq (dIf t g dNext) h δ) S := Tm.bindR (Rt.ifF ht Rt.next) hh
theorem tSeqT' {t : List Sl → W Bool} {S : Out → Prop} (ht : Rt (t δ) true) (hg : Tm B (g δ) (fun o => ∃ d, o = .rt d ∧ S o)) : Tm B (dSeq (dIf t g dNext) h δ) S :=
  Tm.bind (B2 := 0) (tIfT ht hg) (fun o ho => by obtain ⟨d, rfl, hs⟩ := ho; exact Tm.ret hs) (Nat.le_refl _)
end
theorem ixS {x : Str} {k : Int} {c : Nat} (h : x.length ≤ 4000) (e : atI x.cps.toList k = some c) : Rt (ixD (.str x) (.int k)) (.str ⟨#[c]⟩) := Rt.need (small h) (by rw [e]; exact Rt.ret)
def sgns (x : Str) (S : List Nat) : Prop := ∀ c ∈ x.cps.toList, c ∈ S
theorem txts_map (l : List Str) : txts (l.map D.str) = some l := by
  induction l with
  | nil => rfl
  | cons x r ih => show (txts (r.map D.str)).map (x :: ·) = _; rw [ih]; rfl
theorem fold_cps : ∀ (l : List Str) (acc : Array Nat), (l.foldl (fun acc p => acc ++ (#[] : Array Nat) ++ p.cps) acc).toList = acc.toList ++ l.flatMap fun x => x.cps.toList
  | [], acc => by simp
  | x :: r, acc => by rw [List.foldl_cons, fold_cps r]; simp
theorem glued_cps (l : List Str) : (Txt.join "" l).cps.toList = l.flatMap fun x => x.cps.toList := by
  have h0 : ("" : Str).cps = #[] := by decide +kernel
  show ((l.drop 1).foldl (fun acc p => acc ++ ("" : Str).cps ++ p.cps) (l.headD Str.empty).cps).toList = _
  rw [h0, fold_cps]
  cases l with
  | nil => rfl
  | cons x r => simp
theorem singles {ys : List D} {S : List Nat} (h : ∀ y ∈ ys, ∃ c ∈ S, y = .str ⟨#[c]⟩) : ∃ cs : List Nat, ys = cs.map (fun c => .str ⟨#[c]⟩) ∧ ∀ c ∈ cs, c ∈ S := by
  induction ys with
  | nil => exact ⟨[], rfl, fun c z => nomatch z⟩
  | cons y r ih =>
    obtain ⟨c, hc, rfl⟩ := h y List.mem_cons_self
    obtain ⟨cs, rfl, hcs⟩ := ih fun z hz => h z (List.mem_cons_of_mem _ hz)
    refine ⟨c :: cs, rfl, fun z hz => ?_⟩
    rcases List.mem_cons.mp hz with rfl | hz
    · exact hc
    · exact hcs z hz
theorem join_r {cs : List Nat} (h : cs.length ≤ 4000) : Rt (joinD "" [.lst (cs.map fun c => .str ⟨#[c]⟩)]) (.str ⟨cs.toArray⟩) := by
  have e : (cs.map fun c => D.str ⟨#[c]⟩) = (cs.map fun c => (⟨#[c]⟩ : Str)).map D.str := by rw [List.map_map]; rfl
  rw [e]
  show Rt (match txts ((cs.map fun c => (⟨#[c]⟩ : Str)).map D.str) with | some ys => W.need ((ys.map (·.length)).sum + ys.length * ("" : Str).length ≤ 16777216) (W.ret (D.str (Txt.join "" ys))) | none => W.stuck) _
  rw [txts_map]
  have hs : ((cs.map fun c => (⟨#[c]⟩ : Str)).map (·.length)).sum = cs.length := by
    rw [List.map_map]
    induction cs with
    | nil => rfl
    | cons c r ih => rw [List.map_cons, List.sum_cons, ih (by rw [List.length_cons] at h; omega) (by rw [List.map_map]; rfl)]; show 1 + r.length = _; rw [List.length_cons]; omega
  have h0 : ("" : Str).length = 0 := by decide +kernel
  refine Rt.need (by rw [hs, h0]; omega) (Rt.ret.cast (congrArg D.str ?_))
  have hg := glued_cps (cs.map fun c => (⟨#[c]⟩ : Str))
  have hc : ((cs.map fun c => (⟨#[c]⟩ : Str)).flatMap fun x => x.cps.toList) = cs := by
    rw [List.flatMap_map]
    simp
  rw [hc] at hg
  have : (Txt.join "" (cs.map fun c => (⟨#[c]⟩ : Str))).cps = cs.toArray := by
    apply Array.toList_inj.mp
    rw [hg]
  exact congrArg Str.mk this
/-! ### few -/
structure good (s : Str) : Prop where
  one : 1 ≤ s.length
  few : s.length ≤ 3
  let_ : lets s
  nd : s.cps.toList.Nodup
theorem good_of (s : Str) (h : (decide (1 ≤ s.length) && (decide (s.length ≤ 3) && ((s.cps.toList.all fun c => decide (c ∈ LET.cps.toList)) && decide (s.cps.toList.Nodup)))) = true) : good s := by
  simp only [Bool.and_eq_true, decide_eq_true_eq, List.all_eq_true] at h
  exact ⟨h.1, h.2.1, h.2.2.1, h.2.2.2⟩
abbrev SQ : Str := " !\"#$&'()*+,-./0123456789:;<=>?@ABCDEFGHIJKLMNOPQRSTUVWXYZ[\\]^_`abcdefghijklmnoprstuvwxyz{|}~"
theorem SQ_ok : (SQ.cps.toList.all fun c => decide (c ∈ LET.cps.toList)) = true := by decide +kernel
theorem yz_ok : (("yz" : Str).cps.toList.all fun c => decide (c ∈ LET.cps.toList) && decide (c ≠ 40)) = true := by decide +kernel
theorem pa_ok : (("(" : Str).cps.toList.all fun c => decide (c = 40)) = true := by decide +kernel
theorem l40 : (40 : Nat) ∈ LET.cps.toList := by decide +kernel
def sg (c : Nat) : D := .str ⟨#[c]⟩
theorem sg_inj {a b : Nat} : ((⟨#[a]⟩ : Str) == ⟨#[b]⟩) = decide (a = b) := by
  rw [Bool.eq_iff_iff, beq_iff_eq, decide_eq_true_iff]
  constructor
  · intro h
    have : (#[a] : Array Nat) = #[b] := congrArg Str.cps h
    simpa using this
  · intro h; rw [h]
theorem notIn {x : Nat} {ys : List Nat} : Rt (inD true (sg x) (.lst (ys.map sg))) (.bl (!decide (x ∈ ys))) := by
  have e : (ys.map sg).all flatD = true := by rw [List.all_map]; exact List.all_eq_true.mpr fun _ _ => rfl
  refine Rt.need ⟨rfl, e⟩ (Rt.ret.cast (congrArg D.bl ?_))
  show (!inF (sg x) (ys.map sg)) = _
  congr 1
  unfold inF
  rw [List.any_map, Bool.eq_iff_iff, List.any_eq_true, decide_eq_true_iff]
  constructor
  · rintro ⟨y, hy, h⟩
    have h2 : ((⟨#[y]⟩ : Str) == ⟨#[x]⟩) = true := h
    rw [sg_inj, decide_eq_true_iff] at h2
    rw [← h2]; exact hy
  · intro h
    exact ⟨x, h, beq_self_eq_true (⟨#[x]⟩ : Str)⟩
theorem cutL_to {α : Type} (xs : List α) (m : Nat) : cutL xs none (some (m : Int)) = xs.take m := by
  unfold cutL
  rw [HT.sIx_none, HT.sIx_nat, Nat.sub_zero, List.drop_zero, List.take_eq_take_iff]
  omega
def rare (l : List Nat) : List Nat := ((List.range 3).filter fun i => !decide ((l[i]?).getD 0 ∈ l.take i)).map fun i => (l[i]?).getD 0
theorem rare_good {a b : Nat} (ha : a ∈ LET.cps.toList) (hb : b ∈ LET.cps.toList) (hb2 : b ≠ 40) : good ⟨(rare [a, b, 40]).toArray⟩ := by
  have e : rare [a, b, 40] = if a = b then [a, 40] else if a = 40 then [a, b] else [a, b, 40] := by
    unfold rare
    have hr : List.range 3 = [0, 1, 2] := rfl
    rw [hr]
    simp only [List.filter_cons, List.filter_nil, List.getElem?_cons_zero, List.getElem?_cons_succ, Option.getD_some, List.take_zero, List.take_succ_cons, List.mem_cons, List.not_mem_nil, or_false, decide_false, Bool.not_false, if_true]
    by_cases h1 : a = b
    · subst h1
      have h3 : ¬ (40 = a) := fun z => hb2 z.symm
      simp [h3]
    · have h1' : ¬ b = a := fun z => h1 z.symm
      have h3 : ¬ (40 = b) := fun z => hb2 z.symm
      by_cases h2 : a = 40
      · subst h2; simp [h1, h1']
      · have h2' : ¬ 40 = a := fun z => h2 z.symm
        simp [h1, h1', h2, h2', h3]
  have h40 := l40
  have hl : ∀ l : List Nat, (⟨l.toArray⟩ : Str).length = l.length := fun l => len_cps _
  rw [e]
  split
  · refine ⟨by rw [hl]; simp, by rw [hl]; simp, fun c hc => ?_, ?_⟩
    · have hc : c ∈ [a, 40] := hc
      simp only [List.mem_cons, List.not_mem_nil, or_false] at hc
      rcases hc with rfl | rfl
      · exact ha
      · exact h40
    · rename_i h; subst h
      show [a, 40].Nodup
      simp [hb2]
  · split
    · refine ⟨by rw [hl]; simp, by rw [hl]; simp, fun c hc => ?_, ?_⟩
      · have hc : c ∈ [a, b] := hc
        simp only [List.mem_cons, List.not_mem_nil, or_false] at hc
        rcases hc with rfl | rfl
        · exact ha
        · exact hb
      · show [a, b].Nodup
        rename_i h _
        simp [h]
    · refine ⟨by rw [hl]; simp, by rw [hl]; simp, fun c hc => ?_, ?_⟩
      · have hc : c ∈ [a, b, 40] := hc
        simp only [List.mem_cons, List.not_mem_nil, or_false] at hc
        rcases hc with rfl | rfl | rfl
        · exact ha
        · exact hb
        · exact h40
      · show [a, b, 40].Nodup
        rename_i h h2
        simp [h, h2, hb2]
theorem ok_asc {x : Str} (h : asc x) : PyData.strOk x = true := by
  show x.cps.all (· < 0x110000) = true
  rw [← Array.all_toList, List.all_eq_true]
  intro c hc
  have := h c hc
  exact decide_eq_true (by omega)
theorem shaped_strs {l : List Str} (h : ∀ x ∈ l, asc x) : SeqAt.shaped (.list (l.map .str)) = true := by
  have h1 : ∀ l : List Str, (∀ x ∈ l, asc x) → PyData.canLayAll0 (l.map .str) = true := fun l => by
    induction l with
    | nil => exact fun _ => rfl
    | cons c r ih =>
      intro h
      show (PyData.strOk c && PyData.canLayAll0 (r.map .str)) = true
      rw [ok_asc (h c List.mem_cons_self), ih fun d hd => h d (List.mem_cons_of_mem _ hd)]
      rfl
  have h3 : ∀ cs : List Str, PyData.depthAll (cs.map .str) = 0 := fun cs => by
    induction cs with
    | nil => rfl
    | cons c r ih =>
      show max (PyData.depth (.str c)) (PyData.depthAll (r.map PyData.str)) = 0
      rw [ih]; rfl
  have h2 : (PyData.list (l.map .str)).depth ≤ 64 := by
    show PyData.depthAll (l.map .str) + 1 ≤ 64
    rw [h3]
    decide
  exact Bool.and_eq_true_iff.mpr ⟨h1 l h, decide_eq_true h2⟩
theorem ne_strs {l : List Str} (h : ∀ x ∈ l, asc x) : Rt (neD (.lst (l.map D.str)) (.lst [])) (.bl (!l.isEmpty)) := by
  show Rt (match toP (.lst (l.map D.str)), toP (.lst []) with | some a, some b => W.need (SeqAt.shaped a = true ∧ SeqAt.shaped b = true) (W.ret (D.bl (!PyData.eqv a b))) | _, _ => W.stuck) _
  rw [toP_nil, toP, toPs_str]
  refine Rt.need ⟨shaped_strs h, rfl⟩ (Rt.ret.cast ?_)
  cases l <;> rfl
theorem eq_nils : Rt (eqD (.lst []) (.lst [])) (.bl true) := eq_signs (cs := []) (fun _ z => nomatch z)
theorem let_asc : (LET.cps.toList.all fun c => decide (c < 128)) = true := by decide +kernel
theorem lets_asc {x : Str} (h : lets x) : asc x := fun c hc => of_decide_eq_true (List.all_eq_true.mp let_asc c (h c hc))
end Ly
set_option Elab.async false
set_option linter.all false
set_option maxRecDepth 100000
set_option maxHeartbeats 4000000
/-! Ly25: rules for own lists that grow over many statements, for errors as data. -/
namespace Ly
open PySem L2
/-- with an own list in slot i, as yet xs, m ends as o -/
def Rq (m : List Sl → W Out) (i : Nat) (δ : List Sl) (xs : List D) (o : Out) : Prop := ∀ (b : List MO) (s : S) (Q : S → Out → Prop) (E : S → Xn → Prop), b ++ [MO.lst xs] <+: s.st → (∀ t : S, t.n = s.n → b <+: t.st → Q t o) → (m (δ.set i (some (.mu b.length)))).wp s Q E
section
variable {i : Nat} {δ : List Sl} {xs ys : List D} {o : Out} {f : List Sl → W D} {h : List Sl → W Out} {y : D}
theorem var_mu {b : Nat} (hi : i < δ.length) : dVar i (δ.set i (some (.mu b))) = W.ret (.mu b) := by unfold dVar; rw [List.getElem?_set_self hi]
theorem Rq.app (hi : i < δ.length) (hx : xs.length < 4000) (hf : ∀ j, Rt (f (δ.set i (some (.mu j)))) y) (hh : Rq h i δ (xs ++ [y]) o) : Rq (dSeq (dApp i f) h) i δ xs o := fun b s Q E p q => by
  have z4 : xs.length < sizeLine := by rw [sizeLine_eq]; omega
  show (W.bind (dApp i f (δ.set i (some (.mu b.length)))) _).wp s Q E
  unfold dApp
  rw [var_mu hi]
  refine ⟨.lst xs, pre_get p new_get, hf _ s _ E fun t1 e1 p1 => ⟨.lst xs, pre_get (p.trans p1) new_get, z4, ?_⟩⟩
  have hp : b ++ [MO.lst (xs ++ [y])] <+: t1.st.set b.length (.lst (xs ++ [y])) := by
    have := pre_set (b := MO.lst (xs ++ [y])) (p.trans p1) (new_get (l := b) (o := MO.lst xs))
    simpa using this
  exact hh b ⟨t1.n, _⟩ Q E hp fun t2 e2 p2 => q t2 (e2.trans e1) p2
theorem Rq.ext (hi : i < δ.length) (hx : xs.length + ys.length < 4000) (hf : ∀ j, Rt (f (δ.set i (some (.mu j)))) (.lst ys)) (hh : Rq h i δ (xs ++ ys) o) : Rq (dSeq (dExt i f) h) i δ xs o := fun b s Q E p q => by
  have z4 : xs.length + ys.length ≤ sizeLine := by rw [sizeLine_eq]; omega
  show (W.bind (dExt i f (δ.set i (some (.mu b.length)))) _).wp s Q E
  unfold dExt
  rw [var_mu hi]
  refine ⟨.lst xs, pre_get p new_get, hf _ s _ E fun t1 e1 p1 => ⟨.lst xs, pre_get (p.trans p1) new_get, z4, ?_⟩⟩
  have hp : b ++ [MO.lst (xs ++ ys)] <+: t1.st.set b.length (.lst (xs ++ ys)) := by
    have := pre_set (b := MO.lst (xs ++ ys)) (p.trans p1) (new_get (l := b) (o := MO.lst xs))
    simpa using this
  exact hh b ⟨t1.n, _⟩ Q E hp fun t2 e2 p2 => q t2 (e2.trans e1) p2
theorem Rq.asg {k : Nat} {d : D} (hk : k ≠ i) (hf : ∀ j, Rt (f (δ.set i (some (.mu j)))) d) (hh : Rq h i (δ.set k (some d)) xs o) : Rq (dSeq (dAsg f (dName k)) h) i δ xs o := fun b s Q E p q => by
  refine hf _ s _ E fun t1 e1 p1 => ?_
  show (h ((δ.set i (some (.mu b.length))).set k (some d))).wp t1 Q E
  rw [List.set_comm _ _ hk.symm]
  exact hh b t1 Q E (p.trans p1) fun t2 e2 p2 => q t2 (e2.trans e1) p2
theorem Rq.ice {g : List Sl → W Out} (hi : i < δ.length) (hg : Rt (g (δ.set i (some (.lst xs)))) o) : Rq (fun δ => (iceD i δ).bind g) i δ xs o := fun b s Q E p q => by
  show (W.bind (iceD i (δ.set i (some (.mu b.length)))) g).wp s Q E
  unfold iceD
  rw [List.getElem?_set_self hi]
  refine ⟨.lst xs, pre_get p new_get, ?_⟩
  show (g ((δ.set i (some (.mu b.length))).set i (some (.lst xs)))).wp ⟨s.n, s.st.set b.length .gone⟩ Q E
  rw [List.set_set]
  have hp : b <+: s.st.set b.length .gone := by
    have := pre_set (b := MO.gone) p (new_get (l := b) (o := MO.lst xs))
    refine List.IsPrefix.trans ?_ this
    simp
  exact hg ⟨s.n, _⟩ Q E fun t e p2 => q t e (hp.trans p2)
theorem Rq.new {fl : List Sl → W (List D)} (h1 : Rt (fl δ) xs) (hx : xs.length < 4000) (hh : Rq h i δ xs o) : Rt (dSeq (dNewL fl i) h δ) o := fun s Q E q => by
  have z4 : xs.length ≤ sizeLine := by rw [sizeLine_eq]; omega
  refine h1 s _ E fun t1 e1 p1 => ⟨z4, ?_⟩
  show (h (δ.set i (some (.mu t1.st.length)))).wp ⟨t1.n, t1.st ++ [.lst xs]⟩ Q E
  exact hh t1.st ⟨t1.n, t1.st ++ [.lst xs]⟩ Q E (List.prefix_refl _) fun t e p => q t (e.trans e1) (p1.trans p)
end
section
variable {δ : List Sl} {f : List Sl → W D} {fl : List Sl → W (List D)} {c n : Str} {gs : List (Str × D)} {d : D}
theorem Rt.err {flds : List Str} {ds : List D} (hf : Rt (fl δ) ds) (hl : ds.length = flds.length) : Rt (dErr c flds fl δ) (.err c (flds.zip ds).reverse) := Rt.bind hf (Rt.need hl Rt.ret)
theorem Rt.errR {flds : List Str} {ds : List D} (hf : Rt (fl δ) ds) (hl : ds.length = flds.length) : Rt (dErrR c flds fl δ) (.err c (flds.zip ds)) := Rt.bind hf (Rt.need hl Rt.ret)
theorem Rt.errF {tb : List (Str × Str)} (hf : Rt (f δ) (.err c gs)) (ht : (c, n) ∈ tb) (hl : gs.lookup n = some d) : Rt (dErrF tb n f δ) d := Rt.bind hf (Rt.need ht (by rw [hl]; exact Rt.ret))
theorem Rt.isV {tb : List (Str × Bool)} {b : Bool} (h : tb.lookup c = some b) : Rt (dIsV tb (.err c gs)) (.bl b) := by show Rt (match tb.lookup c with | some b => W.ret (D.bl b) | none => W.stuck) _; rw [h]; exact Rt.ret
theorem Rt.repr {p : PyData} {x : D} (h : toQ x = some p) (hc : p.showable = true ∧ p.depth ≤ 60 ∧ p.shown.length ≤ sizeLine) : Rt (reprQD [x]) (.str p.shown) := by
  show Rt (match toQ x with | some d => W.need (d.showable = true ∧ d.depth ≤ 60 ∧ d.shown.length ≤ sizeLine) (W.ret (D.str d.shown)) | none => W.stuck) _
  rw [h]
  exact Rt.need hc Rt.ret
end
end Ly
set_option Elab.async false
set_option linter.all false
set_option maxRecDepth 100000
set_option maxHeartbeats 4000000
/-! printed by gen.py: the walk. -/
namespace Lw
open PySem PySem.Spec L2 PyProof.Rows He Ly
open Lx (pe_gi pe_gs pe_revS sl_U pe_lenSetS pe_sortSet pe_maxD call_repr call_sumL op_addU op_eqU op_neU op_inU op_notInU pe_crepl fm_ini fm_sup fm_meth fm_prop fm_own fm_isi SupC SupD SupScope DefM spPen t_pen pen_pure t_draw IsTb IsOk vTy pgA Fm Ky)
abbrev PW : Program := PySem.Challenge.pw_linestream_k36_errors_and_limits
def top (i : Nat) : Stmt := PW.main.body.getD i (.Pass ⟨0, 0, 0, 0⟩)
abbrev s__law_draw : Stmt := top 30
abbrev s__law_pick : Stmt := top 31
abbrev s__law_any_value : Stmt := top 32
abbrev s__law_classes : Stmt := top 34
abbrev s__law_pen : Stmt := top 29
abbrev s_Beyond_init : Stmt := inClass (top 13) 0
abbrev s_InvalidAddress_init : Stmt := inClass (top 3) 0
abbrev s_InvalidBlock_init : Stmt := inClass (top 10) 0
abbrev s_InvalidChange_init : Stmt := inClass (top 2) 0
abbrev s_InvalidCheckpoint_init : Stmt := inClass (top 8) 0
abbrev s_InvalidCommand_init : Stmt := inClass (top 4) 0
abbrev s_InvalidLine_init : Stmt := inClass (top 5) 0
abbrev s_InvalidRoom_init : Stmt := inClass (top 7) 0
abbrev s_InvalidRow_init : Stmt := inClass (top 12) 0
abbrev s_InvalidSkip_init : Stmt := inClass (top 9) 0
abbrev s_InvalidTest_init : Stmt := inClass (top 1) 0
abbrev s_InvalidText_init : Stmt := inClass (top 6) 0
abbrev s_NoName_init : Stmt := inClass (top 15) 0
abbrev s_OutOfRange_init : Stmt := inClass (top 14) 0
abbrev s_TooMany_init : Stmt := inClass (top 17) 0
abbrev s_Unreadable_init : Stmt := inClass (top 11) 0
abbrev s__law_some_errors : Stmt := top 33
abbrev s__law_sorts : Stmt := top 35
abbrev s_law : Stmt := top 36
def dm__law_draw : DefM := ⟨(.fn "_law_draw"), "_law_draw", "_law_draw", defArgs s__law_draw, defBody s__law_draw, defScope s__law_draw, none⟩
def dm__law_pick : DefM := ⟨(.fn "_law_pick"), "_law_pick", "_law_pick", defArgs s__law_pick, defBody s__law_pick, defScope s__law_pick, none⟩
def dm__law_any_value : DefM := ⟨(.fn "_law_any_value"), "_law_any_value", "_law_any_value", defArgs s__law_any_value, defBody s__law_any_value, defScope s__law_any_value, none⟩
def dm__law_classes : DefM := ⟨(.fn "_law_classes"), "_law_classes", "_law_classes", defArgs s__law_classes, defBody s__law_classes, defScope s__law_classes, none⟩
def dm__law_pen : DefM := ⟨(.fn "_law_pen"), "_law_pen", "_law_pen", defArgs s__law_pen, defBody s__law_pen, defScope s__law_pen, none⟩
def dm_Beyond_init : DefM := ⟨(.me "Beyond" "__init__"), "__init__", "Beyond.__init__", defArgs s_Beyond_init, defBody s_Beyond_init, defScope s_Beyond_init, some "Beyond"⟩
def dm_InvalidAddress_init : DefM := ⟨(.me "InvalidAddress" "__init__"), "__init__", "InvalidAddress.__init__", defArgs s_InvalidAddress_init, defBody s_InvalidAddress_init, defScope s_InvalidAddress_init, some "InvalidAddress"⟩
def dm_InvalidBlock_init : DefM := ⟨(.me "InvalidBlock" "__init__"), "__init__", "InvalidBlock.__init__", defArgs s_InvalidBlock_init, defBody s_InvalidBlock_init, defScope s_InvalidBlock_init, some "InvalidBlock"⟩
def dm_InvalidChange_init : DefM := ⟨(.me "InvalidChange" "__init__"), "__init__", "InvalidChange.__init__", defArgs s_InvalidChange_init, defBody s_InvalidChange_init, defScope s_InvalidChange_init, some "InvalidChange"⟩
def dm_InvalidCheckpoint_init : DefM := ⟨(.me "InvalidCheckpoint" "__init__"), "__init__", "InvalidCheckpoint.__init__", defArgs s_InvalidCheckpoint_init, defBody s_InvalidCheckpoint_init, defScope s_InvalidCheckpoint_init, some "InvalidCheckpoint"⟩
def dm_InvalidCommand_init : DefM := ⟨(.me "InvalidCommand" "__init__"), "__init__", "InvalidCommand.__init__", defArgs s_InvalidCommand_init, defBody s_InvalidCommand_init, defScope s_InvalidCommand_init, some "InvalidCommand"⟩
def dm_InvalidLine_init : DefM := ⟨(.me "InvalidLine" "__init__"), "__init__", "InvalidLine.__init__", defArgs s_InvalidLine_init, defBody s_InvalidLine_init, defScope s_InvalidLine_init, some "InvalidLine"⟩
def dm_InvalidRoom_init : DefM := ⟨(.me "InvalidRoom" "__init__"), "__init__", "InvalidRoom.__init__", defArgs s_InvalidRoom_init, defBody s_InvalidRoom_init, defScope s_InvalidRoom_init, some "InvalidRoom"⟩
def dm_InvalidRow_init : DefM := ⟨(.me "InvalidRow" "__init__"), "__init__", "InvalidRow.__init__", defArgs s_InvalidRow_init, defBody s_InvalidRow_init, defScope s_InvalidRow_init, some "InvalidRow"⟩
def dm_InvalidSkip_init : DefM := ⟨(.me "InvalidSkip" "__init__"), "__init__", "InvalidSkip.__init__", defArgs s_InvalidSkip_init, defBody s_InvalidSkip_init, defScope s_InvalidSkip_init, some "InvalidSkip"⟩
def dm_InvalidTest_init : DefM := ⟨(.me "InvalidTest" "__init__"), "__init__", "InvalidTest.__init__", defArgs s_InvalidTest_init, defBody s_InvalidTest_init, defScope s_InvalidTest_init, some "InvalidTest"⟩
def dm_InvalidText_init : DefM := ⟨(.me "InvalidText" "__init__"), "__init__", "InvalidText.__init__", defArgs s_InvalidText_init, defBody s_InvalidText_init, defScope s_InvalidText_init, some "InvalidText"⟩
def dm_NoName_init : DefM := ⟨(.me "NoName" "__init__"), "__init__", "NoName.__init__", defArgs s_NoName_init, defBody s_NoName_init, defScope s_NoName_init, some "NoName"⟩
def dm_OutOfRange_init : DefM := ⟨(.me "OutOfRange" "__init__"), "__init__", "OutOfRange.__init__", defArgs s_OutOfRange_init, defBody s_OutOfRange_init, defScope s_OutOfRange_init, some "OutOfRange"⟩
def dm_TooMany_init : DefM := ⟨(.me "TooMany" "__init__"), "__init__", "TooMany.__init__", defArgs s_TooMany_init, defBody s_TooMany_init, defScope s_TooMany_init, some "TooMany"⟩
def dm_Unreadable_init : DefM := ⟨(.me "Unreadable" "__init__"), "__init__", "Unreadable.__init__", defArgs s_Unreadable_init, defBody s_Unreadable_init, defScope s_Unreadable_init, some "Unreadable"⟩
def dm__law_some_errors : DefM := ⟨(.fn "_law_some_errors"), "_law_some_errors", "_law_some_errors", defArgs s__law_some_errors, defBody s__law_some_errors, defScope s__law_some_errors, none⟩
def dm__law_sorts : DefM := ⟨(.fn "_law_sorts"), "_law_sorts", "_law_sorts", defArgs s__law_sorts, defBody s__law_sorts, defScope s__law_sorts, none⟩
def dm_law : DefM := ⟨(.fn "law"), "law", "law", defArgs s_law, defBody s_law, defScope s_law, none⟩
def fn : List DefM := [dm__law_draw, dm__law_pick, dm__law_any_value, dm__law_classes, dm__law_pen, dm_Beyond_init, dm_InvalidAddress_init, dm_InvalidBlock_init, dm_InvalidChange_init, dm_InvalidCheckpoint_init, dm_InvalidCommand_init, dm_InvalidLine_init, dm_InvalidRoom_init, dm_InvalidRow_init, dm_InvalidSkip_init, dm_InvalidTest_init, dm_InvalidText_init, dm_NoName_init, dm_OutOfRange_init, dm_TooMany_init, dm_Unreadable_init, dm__law_some_errors, dm__law_sorts, dm_law]
def fa0 : List Fy := [.m (.he (.free "abs")), .m (.he (.free "len")), .m (.he (.free "int")), .m (.he (.glo "_law_draw")), .m (.he (.glo "_law_pick")), .m (.he (.glo "Finished")), .m (.he (.free "isinstance")), .m (.he (.glo "TooMany")), .m (.he (.glo "Nothing")), .m (.he (.glo "NoName")), .m (.he (.glo "OutOfRange")), .m (.he (.glo "Beyond")), .m (.he (.glo "InvalidRow")), .m (.he (.glo "Unreadable")), .m (.he (.glo "InvalidBlock")), .m (.he (.glo "InvalidSkip")), .m (.he (.glo "InvalidCheckpoint")), .m (.he (.glo "InvalidRoom")), .m (.he (.glo "InvalidText")), .m (.he (.glo "InvalidLine")), .m (.he (.glo "InvalidCommand")), .m (.he (.glo "InvalidAddress")), .m (.he (.glo "InvalidChange")), .m (.he (.glo "InvalidTest")), .m (.he (.free "list")), .m (.top), .ob "Beyond" "ValueError" "ValueError.__new__" "ValueError.__init__" ["ValueError", "Exception", "BaseException", "object"], .xfl "Beyond" "bound", .ob "InvalidAddress" "ValueError" "ValueError.__new__" "ValueError.__init__" ["ValueError", "Exception", "BaseException", "object"], .xfl "InvalidAddress" "argument", .ob "InvalidBlock" "ValueError" "ValueError.__new__" "ValueError.__init__" ["ValueError", "Exception", "BaseException", "object"], .xfl "InvalidBlock" "index", .ob "InvalidChange" "ValueError" "ValueError.__new__" "ValueError.__init__" ["ValueError", "Exception", "BaseException", "object"], .xfl "InvalidChange" "argument", .ob "InvalidCheckpoint" "ValueError" "ValueError.__new__" "ValueError.__init__" ["ValueError", "Exception", "BaseException", "object"], .xfl "InvalidCheckpoint" "value", .ob "InvalidCommand" "ValueError" "ValueError.__new__" "ValueError.__init__" ["ValueError", "Exception", "BaseException", "object"], .xfl "InvalidCommand" "argument", .ob "InvalidLine" "ValueError" "ValueError.__new__" "ValueError.__init__" ["ValueError", "Exception", "BaseException", "object"], .xfl "InvalidLine" "value"]
def fa1 : List Fy := [.ob "InvalidRoom" "ValueError" "ValueError.__new__" "ValueError.__init__" ["ValueError", "Exception", "BaseException", "object"], .xfl "InvalidRoom" "value", .ob "InvalidRow" "ValueError" "ValueError.__new__" "ValueError.__init__" ["ValueError", "Exception", "BaseException", "object"], .xfl "InvalidRow" "row", .ob "InvalidSkip" "ValueError" "ValueError.__new__" "ValueError.__init__" ["ValueError", "Exception", "BaseException", "object"], .xfl "InvalidSkip" "index", .ob "InvalidTest" "ValueError" "ValueError.__new__" "ValueError.__init__" ["ValueError", "Exception", "BaseException", "object"], .xfl "InvalidTest" "argument", .ob "InvalidText" "ValueError" "ValueError.__new__" "ValueError.__init__" ["ValueError", "Exception", "BaseException", "object"], .xfl "InvalidText" "value", .ob "NoName" "LookupError" "LookupError.__new__" "LookupError.__init__" ["LookupError", "Exception", "BaseException", "object"], .xfl "NoName" "name", .ob "OutOfRange" "LookupError" "LookupError.__new__" "LookupError.__init__" ["LookupError", "Exception", "BaseException", "object"], .xfl "OutOfRange" "value", .ob "TooMany" "OverflowError" "OverflowError.__new__" "OverflowError.__init__" ["OverflowError", "ArithmeticError", "Exception", "BaseException", "object"], .xfl "TooMany" "limit", .ob "Unreadable" "ValueError" "ValueError.__new__" "ValueError.__init__" ["ValueError", "Exception", "BaseException", "object"], .xfl "Unreadable" "index", .xfl "Unreadable" "place", .ex0 "Finished" "RuntimeError.__new__" ["RuntimeError", "Exception", "BaseException", "object"], .ex0 "Nothing" "LookupError.__new__" ["LookupError", "Exception", "BaseException", "object"], .m (.he (.free "zip")), .m (.he (.free "RuntimeError")), .m (.he (.free "OverflowError")), .m (.he (.free "LookupError")), .m (.he (.free "ValueError")), .m (.he (.free "repr")), .m (.he (.int "MAX_TIMES" 1000000000000000000000000000000)), .m (.he (.int "MAX_LINES" 4)), .m (.he (.int "MAX_BLOCKS" 10)), .m (.he (.int "MAX_CLASSES" 32)), .m (.he (.int "MAX_ROOM" 3)), .m (.he (.int "MAX_COMMANDS" 12)), .m (.he (.int "MAX_DEPTH" 8)), .m (.he (.int "MAX_LINE" 20)), .m (.he (.int "MAX_WORD" 8)), .m (.he (.free "min")), .m (.he (.free "range")), .m (.he (.glo "_law_some_errors")), .m (.he (.glo "_law_classes"))]
def fa2 : List Fy := [.m (.he (.glo "_law_sorts")), .m (.he (.glo "_law_any_value")), .m (.he (.glo "_law_pen")), .m (.he (.glo "law")), .xis "InvalidTest", .xki "InvalidTest" (.c "Beyond") false, .xis "InvalidChange", .xki "InvalidChange" (.c "Beyond") false, .xis "InvalidAddress", .xki "InvalidAddress" (.c "Beyond") false, .xis "InvalidCommand", .xki "InvalidCommand" (.c "Beyond") false, .xis "InvalidLine", .xki "InvalidLine" (.c "Beyond") false, .xis "InvalidText", .xki "InvalidText" (.c "Beyond") false, .xis "InvalidRoom", .xki "InvalidRoom" (.c "Beyond") false, .xis "InvalidCheckpoint", .xki "InvalidCheckpoint" (.c "Beyond") false, .xis "InvalidSkip", .xki "InvalidSkip" (.c "Beyond") false, .xis "InvalidBlock", .xki "InvalidBlock" (.c "Beyond") false, .xis "Unreadable", .xki "Unreadable" (.c "Beyond") false, .xis "InvalidRow", .xki "InvalidRow" (.c "Beyond") false, .xis "Beyond", .xki "Beyond" (.c "Beyond") true, .xis "OutOfRange", .xki "OutOfRange" (.c "Beyond") false, .xis "NoName", .xki "NoName" (.c "Beyond") false, .xis "TooMany", .xki "TooMany" (.c "Beyond") false, .xis "Nothing", .xki "Nothing" (.c "Beyond") false, .xis "Finished", .xki "Finished" (.c "Beyond") false]
def fa3 : List Fy := [.xki "InvalidTest" (.c "Finished") false, .xki "InvalidChange" (.c "Finished") false, .xki "InvalidAddress" (.c "Finished") false, .xki "InvalidCommand" (.c "Finished") false, .xki "InvalidLine" (.c "Finished") false, .xki "InvalidText" (.c "Finished") false, .xki "InvalidRoom" (.c "Finished") false, .xki "InvalidCheckpoint" (.c "Finished") false, .xki "InvalidSkip" (.c "Finished") false, .xki "InvalidBlock" (.c "Finished") false, .xki "Unreadable" (.c "Finished") false, .xki "InvalidRow" (.c "Finished") false, .xki "Beyond" (.c "Finished") false, .xki "OutOfRange" (.c "Finished") false, .xki "NoName" (.c "Finished") false, .xki "TooMany" (.c "Finished") false, .xki "Nothing" (.c "Finished") false, .xki "Finished" (.c "Finished") true, .xki "InvalidTest" (.c "InvalidAddress") false, .xki "InvalidChange" (.c "InvalidAddress") false, .xki "InvalidAddress" (.c "InvalidAddress") true, .xki "InvalidCommand" (.c "InvalidAddress") false, .xki "InvalidLine" (.c "InvalidAddress") false, .xki "InvalidText" (.c "InvalidAddress") false, .xki "InvalidRoom" (.c "InvalidAddress") false, .xki "InvalidCheckpoint" (.c "InvalidAddress") false, .xki "InvalidSkip" (.c "InvalidAddress") false, .xki "InvalidBlock" (.c "InvalidAddress") false, .xki "Unreadable" (.c "InvalidAddress") false, .xki "InvalidRow" (.c "InvalidAddress") false, .xki "Beyond" (.c "InvalidAddress") false, .xki "OutOfRange" (.c "InvalidAddress") false, .xki "NoName" (.c "InvalidAddress") false, .xki "TooMany" (.c "InvalidAddress") false, .xki "Nothing" (.c "InvalidAddress") false, .xki "Finished" (.c "InvalidAddress") false, .xki "InvalidTest" (.c "InvalidBlock") false, .xki "InvalidChange" (.c "InvalidBlock") false, .xki "InvalidAddress" (.c "InvalidBlock") false, .xki "InvalidCommand" (.c "InvalidBlock") false]
def fa4 : List Fy := [.xki "InvalidLine" (.c "InvalidBlock") false, .xki "InvalidText" (.c "InvalidBlock") false, .xki "InvalidRoom" (.c "InvalidBlock") false, .xki "InvalidCheckpoint" (.c "InvalidBlock") false, .xki "InvalidSkip" (.c "InvalidBlock") false, .xki "InvalidBlock" (.c "InvalidBlock") true, .xki "Unreadable" (.c "InvalidBlock") false, .xki "InvalidRow" (.c "InvalidBlock") false, .xki "Beyond" (.c "InvalidBlock") false, .xki "OutOfRange" (.c "InvalidBlock") false, .xki "NoName" (.c "InvalidBlock") false, .xki "TooMany" (.c "InvalidBlock") false, .xki "Nothing" (.c "InvalidBlock") false, .xki "Finished" (.c "InvalidBlock") false, .xki "InvalidTest" (.c "InvalidChange") false, .xki "InvalidChange" (.c "InvalidChange") true, .xki "InvalidAddress" (.c "InvalidChange") false, .xki "InvalidCommand" (.c "InvalidChange") false, .xki "InvalidLine" (.c "InvalidChange") false, .xki "InvalidText" (.c "InvalidChange") false, .xki "InvalidRoom" (.c "InvalidChange") false, .xki "InvalidCheckpoint" (.c "InvalidChange") false, .xki "InvalidSkip" (.c "InvalidChange") false, .xki "InvalidBlock" (.c "InvalidChange") false, .xki "Unreadable" (.c "InvalidChange") false, .xki "InvalidRow" (.c "InvalidChange") false, .xki "Beyond" (.c "InvalidChange") false, .xki "OutOfRange" (.c "InvalidChange") false, .xki "NoName" (.c "InvalidChange") false, .xki "TooMany" (.c "InvalidChange") false, .xki "Nothing" (.c "InvalidChange") false, .xki "Finished" (.c "InvalidChange") false, .xki "InvalidTest" (.c "InvalidCheckpoint") false, .xki "InvalidChange" (.c "InvalidCheckpoint") false, .xki "InvalidAddress" (.c "InvalidCheckpoint") false, .xki "InvalidCommand" (.c "InvalidCheckpoint") false, .xki "InvalidLine" (.c "InvalidCheckpoint") false, .xki "InvalidText" (.c "InvalidCheckpoint") false, .xki "InvalidRoom" (.c "InvalidCheckpoint") false, .xki "InvalidCheckpoint" (.c "InvalidCheckpoint") true]
def fa5 : List Fy := [.xki "InvalidSkip" (.c "InvalidCheckpoint") false, .xki "InvalidBlock" (.c "InvalidCheckpoint") false, .xki "Unreadable" (.c "InvalidCheckpoint") false, .xki "InvalidRow" (.c "InvalidCheckpoint") false, .xki "Beyond" (.c "InvalidCheckpoint") false, .xki "OutOfRange" (.c "InvalidCheckpoint") false, .xki "NoName" (.c "InvalidCheckpoint") false, .xki "TooMany" (.c "InvalidCheckpoint") false, .xki "Nothing" (.c "InvalidCheckpoint") false, .xki "Finished" (.c "InvalidCheckpoint") false, .xki "InvalidTest" (.c "InvalidCommand") false, .xki "InvalidChange" (.c "InvalidCommand") false, .xki "InvalidAddress" (.c "InvalidCommand") false, .xki "InvalidCommand" (.c "InvalidCommand") true, .xki "InvalidLine" (.c "InvalidCommand") false, .xki "InvalidText" (.c "InvalidCommand") false, .xki "InvalidRoom" (.c "InvalidCommand") false, .xki "InvalidCheckpoint" (.c "InvalidCommand") false, .xki "InvalidSkip" (.c "InvalidCommand") false, .xki "InvalidBlock" (.c "InvalidCommand") false, .xki "Unreadable" (.c "InvalidCommand") false, .xki "InvalidRow" (.c "InvalidCommand") false, .xki "Beyond" (.c "InvalidCommand") false, .xki "OutOfRange" (.c "InvalidCommand") false, .xki "NoName" (.c "InvalidCommand") false, .xki "TooMany" (.c "InvalidCommand") false, .xki "Nothing" (.c "InvalidCommand") false, .xki "Finished" (.c "InvalidCommand") false, .xki "InvalidTest" (.c "InvalidLine") false, .xki "InvalidChange" (.c "InvalidLine") false, .xki "InvalidAddress" (.c "InvalidLine") false, .xki "InvalidCommand" (.c "InvalidLine") false, .xki "InvalidLine" (.c "InvalidLine") true, .xki "InvalidText" (.c "InvalidLine") false, .xki "InvalidRoom" (.c "InvalidLine") false, .xki "InvalidCheckpoint" (.c "InvalidLine") false, .xki "InvalidSkip" (.c "InvalidLine") false, .xki "InvalidBlock" (.c "InvalidLine") false, .xki "Unreadable" (.c "InvalidLine") false, .xki "InvalidRow" (.c "InvalidLine") false]
def fa6 : List Fy := [.xki "Beyond" (.c "InvalidLine") false, .xki "OutOfRange" (.c "InvalidLine") false, .xki "NoName" (.c "InvalidLine") false, .xki "TooMany" (.c "InvalidLine") false, .xki "Nothing" (.c "InvalidLine") false, .xki "Finished" (.c "InvalidLine") false, .xki "InvalidTest" (.c "InvalidRoom") false, .xki "InvalidChange" (.c "InvalidRoom") false, .xki "InvalidAddress" (.c "InvalidRoom") false, .xki "InvalidCommand" (.c "InvalidRoom") false, .xki "InvalidLine" (.c "InvalidRoom") false, .xki "InvalidText" (.c "InvalidRoom") false, .xki "InvalidRoom" (.c "InvalidRoom") true, .xki "InvalidCheckpoint" (.c "InvalidRoom") false, .xki "InvalidSkip" (.c "InvalidRoom") false, .xki "InvalidBlock" (.c "InvalidRoom") false, .xki "Unreadable" (.c "InvalidRoom") false, .xki "InvalidRow" (.c "InvalidRoom") false, .xki "Beyond" (.c "InvalidRoom") false, .xki "OutOfRange" (.c "InvalidRoom") false, .xki "NoName" (.c "InvalidRoom") false, .xki "TooMany" (.c "InvalidRoom") false, .xki "Nothing" (.c "InvalidRoom") false, .xki "Finished" (.c "InvalidRoom") false, .xki "InvalidTest" (.c "InvalidRow") false, .xki "InvalidChange" (.c "InvalidRow") false, .xki "InvalidAddress" (.c "InvalidRow") false, .xki "InvalidCommand" (.c "InvalidRow") false, .xki "InvalidLine" (.c "InvalidRow") false, .xki "InvalidText" (.c "InvalidRow") false, .xki "InvalidRoom" (.c "InvalidRow") false, .xki "InvalidCheckpoint" (.c "InvalidRow") false, .xki "InvalidSkip" (.c "InvalidRow") false, .xki "InvalidBlock" (.c "InvalidRow") false, .xki "Unreadable" (.c "InvalidRow") false, .xki "InvalidRow" (.c "InvalidRow") true, .xki "Beyond" (.c "InvalidRow") false, .xki "OutOfRange" (.c "InvalidRow") false, .xki "NoName" (.c "InvalidRow") false, .xki "TooMany" (.c "InvalidRow") false]
def fa7 : List Fy := [.xki "Nothing" (.c "InvalidRow") false, .xki "Finished" (.c "InvalidRow") false, .xki "InvalidTest" (.c "InvalidSkip") false, .xki "InvalidChange" (.c "InvalidSkip") false, .xki "InvalidAddress" (.c "InvalidSkip") false, .xki "InvalidCommand" (.c "InvalidSkip") false, .xki "InvalidLine" (.c "InvalidSkip") false, .xki "InvalidText" (.c "InvalidSkip") false, .xki "InvalidRoom" (.c "InvalidSkip") false, .xki "InvalidCheckpoint" (.c "InvalidSkip") false, .xki "InvalidSkip" (.c "InvalidSkip") true, .xki "InvalidBlock" (.c "InvalidSkip") false, .xki "Unreadable" (.c "InvalidSkip") false, .xki "InvalidRow" (.c "InvalidSkip") false, .xki "Beyond" (.c "InvalidSkip") false, .xki "OutOfRange" (.c "InvalidSkip") false, .xki "NoName" (.c "InvalidSkip") false, .xki "TooMany" (.c "InvalidSkip") false, .xki "Nothing" (.c "InvalidSkip") false, .xki "Finished" (.c "InvalidSkip") false, .xki "InvalidTest" (.c "InvalidTest") true, .xki "InvalidChange" (.c "InvalidTest") false, .xki "InvalidAddress" (.c "InvalidTest") false, .xki "InvalidCommand" (.c "InvalidTest") false, .xki "InvalidLine" (.c "InvalidTest") false, .xki "InvalidText" (.c "InvalidTest") false, .xki "InvalidRoom" (.c "InvalidTest") false, .xki "InvalidCheckpoint" (.c "InvalidTest") false, .xki "InvalidSkip" (.c "InvalidTest") false, .xki "InvalidBlock" (.c "InvalidTest") false, .xki "Unreadable" (.c "InvalidTest") false, .xki "InvalidRow" (.c "InvalidTest") false, .xki "Beyond" (.c "InvalidTest") false, .xki "OutOfRange" (.c "InvalidTest") false, .xki "NoName" (.c "InvalidTest") false, .xki "TooMany" (.c "InvalidTest") false, .xki "Nothing" (.c "InvalidTest") false, .xki "Finished" (.c "InvalidTest") false, .xki "InvalidTest" (.c "InvalidText") false, .xki "InvalidChange" (.c "InvalidText") false]
def fa8 : List Fy := [.xki "InvalidAddress" (.c "InvalidText") false, .xki "InvalidCommand" (.c "InvalidText") false, .xki "InvalidLine" (.c "InvalidText") false, .xki "InvalidText" (.c "InvalidText") true, .xki "InvalidRoom" (.c "InvalidText") false, .xki "InvalidCheckpoint" (.c "InvalidText") false, .xki "InvalidSkip" (.c "InvalidText") false, .xki "InvalidBlock" (.c "InvalidText") false, .xki "Unreadable" (.c "InvalidText") false, .xki "InvalidRow" (.c "InvalidText") false, .xki "Beyond" (.c "InvalidText") false, .xki "OutOfRange" (.c "InvalidText") false, .xki "NoName" (.c "InvalidText") false, .xki "TooMany" (.c "InvalidText") false, .xki "Nothing" (.c "InvalidText") false, .xki "Finished" (.c "InvalidText") false, .xki "InvalidTest" (.t "LookupError") false, .xki "InvalidChange" (.t "LookupError") false, .xki "InvalidAddress" (.t "LookupError") false, .xki "InvalidCommand" (.t "LookupError") false, .xki "InvalidLine" (.t "LookupError") false, .xki "InvalidText" (.t "LookupError") false, .xki "InvalidRoom" (.t "LookupError") false, .xki "InvalidCheckpoint" (.t "LookupError") false, .xki "InvalidSkip" (.t "LookupError") false, .xki "InvalidBlock" (.t "LookupError") false, .xki "Unreadable" (.t "LookupError") false, .xki "InvalidRow" (.t "LookupError") false, .xki "Beyond" (.t "LookupError") false, .xki "OutOfRange" (.t "LookupError") true, .xki "NoName" (.t "LookupError") true, .xki "TooMany" (.t "LookupError") false, .xki "Nothing" (.t "LookupError") true, .xki "Finished" (.t "LookupError") false, .xki "InvalidTest" (.c "NoName") false, .xki "InvalidChange" (.c "NoName") false, .xki "InvalidAddress" (.c "NoName") false, .xki "InvalidCommand" (.c "NoName") false, .xki "InvalidLine" (.c "NoName") false, .xki "InvalidText" (.c "NoName") false]
def fa9 : List Fy := [.xki "InvalidRoom" (.c "NoName") false, .xki "InvalidCheckpoint" (.c "NoName") false, .xki "InvalidSkip" (.c "NoName") false, .xki "InvalidBlock" (.c "NoName") false, .xki "Unreadable" (.c "NoName") false, .xki "InvalidRow" (.c "NoName") false, .xki "Beyond" (.c "NoName") false, .xki "OutOfRange" (.c "NoName") false, .xki "NoName" (.c "NoName") true, .xki "TooMany" (.c "NoName") false, .xki "Nothing" (.c "NoName") false, .xki "Finished" (.c "NoName") false, .xki "InvalidTest" (.c "Nothing") false, .xki "InvalidChange" (.c "Nothing") false, .xki "InvalidAddress" (.c "Nothing") false, .xki "InvalidCommand" (.c "Nothing") false, .xki "InvalidLine" (.c "Nothing") false, .xki "InvalidText" (.c "Nothing") false, .xki "InvalidRoom" (.c "Nothing") false, .xki "InvalidCheckpoint" (.c "Nothing") false, .xki "InvalidSkip" (.c "Nothing") false, .xki "InvalidBlock" (.c "Nothing") false, .xki "Unreadable" (.c "Nothing") false, .xki "InvalidRow" (.c "Nothing") false, .xki "Beyond" (.c "Nothing") false, .xki "OutOfRange" (.c "Nothing") false, .xki "NoName" (.c "Nothing") false, .xki "TooMany" (.c "Nothing") false, .xki "Nothing" (.c "Nothing") true, .xki "Finished" (.c "Nothing") false, .xki "InvalidTest" (.c "OutOfRange") false, .xki "InvalidChange" (.c "OutOfRange") false, .xki "InvalidAddress" (.c "OutOfRange") false, .xki "InvalidCommand" (.c "OutOfRange") false, .xki "InvalidLine" (.c "OutOfRange") false, .xki "InvalidText" (.c "OutOfRange") false, .xki "InvalidRoom" (.c "OutOfRange") false, .xki "InvalidCheckpoint" (.c "OutOfRange") false, .xki "InvalidSkip" (.c "OutOfRange") false, .xki "InvalidBlock" (.c "OutOfRange") false]
def fa10 : List Fy := [.xki "Unreadable" (.c "OutOfRange") false, .xki "InvalidRow" (.c "OutOfRange") false, .xki "Beyond" (.c "OutOfRange") false, .xki "OutOfRange" (.c "OutOfRange") true, .xki "NoName" (.c "OutOfRange") false, .xki "TooMany" (.c "OutOfRange") false, .xki "Nothing" (.c "OutOfRange") false, .xki "Finished" (.c "OutOfRange") false, .xki "InvalidTest" (.t "OverflowError") false, .xki "InvalidChange" (.t "OverflowError") false, .xki "InvalidAddress" (.t "OverflowError") false, .xki "InvalidCommand" (.t "OverflowError") false, .xki "InvalidLine" (.t "OverflowError") false, .xki "InvalidText" (.t "OverflowError") false, .xki "InvalidRoom" (.t "OverflowError") false, .xki "InvalidCheckpoint" (.t "OverflowError") false, .xki "InvalidSkip" (.t "OverflowError") false, .xki "InvalidBlock" (.t "OverflowError") false, .xki "Unreadable" (.t "OverflowError") false, .xki "InvalidRow" (.t "OverflowError") false, .xki "Beyond" (.t "OverflowError") false, .xki "OutOfRange" (.t "OverflowError") false, .xki "NoName" (.t "OverflowError") false, .xki "TooMany" (.t "OverflowError") true, .xki "Nothing" (.t "OverflowError") false, .xki "Finished" (.t "OverflowError") false, .xki "InvalidTest" (.t "RuntimeError") false, .xki "InvalidChange" (.t "RuntimeError") false, .xki "InvalidAddress" (.t "RuntimeError") false, .xki "InvalidCommand" (.t "RuntimeError") false, .xki "InvalidLine" (.t "RuntimeError") false, .xki "InvalidText" (.t "RuntimeError") false, .xki "InvalidRoom" (.t "RuntimeError") false, .xki "InvalidCheckpoint" (.t "RuntimeError") false, .xki "InvalidSkip" (.t "RuntimeError") false, .xki "InvalidBlock" (.t "RuntimeError") false, .xki "Unreadable" (.t "RuntimeError") false, .xki "InvalidRow" (.t "RuntimeError") false, .xki "Beyond" (.t "RuntimeError") false, .xki "OutOfRange" (.t "RuntimeError") false]
def fa11 : List Fy := [.xki "NoName" (.t "RuntimeError") false, .xki "TooMany" (.t "RuntimeError") false, .xki "Nothing" (.t "RuntimeError") false, .xki "Finished" (.t "RuntimeError") true, .xki "InvalidTest" (.c "TooMany") false, .xki "InvalidChange" (.c "TooMany") false, .xki "InvalidAddress" (.c "TooMany") false, .xki "InvalidCommand" (.c "TooMany") false, .xki "InvalidLine" (.c "TooMany") false, .xki "InvalidText" (.c "TooMany") false, .xki "InvalidRoom" (.c "TooMany") false, .xki "InvalidCheckpoint" (.c "TooMany") false, .xki "InvalidSkip" (.c "TooMany") false, .xki "InvalidBlock" (.c "TooMany") false, .xki "Unreadable" (.c "TooMany") false, .xki "InvalidRow" (.c "TooMany") false, .xki "Beyond" (.c "TooMany") false, .xki "OutOfRange" (.c "TooMany") false, .xki "NoName" (.c "TooMany") false, .xki "TooMany" (.c "TooMany") true, .xki "Nothing" (.c "TooMany") false, .xki "Finished" (.c "TooMany") false, .xki "InvalidTest" (.c "Unreadable") false, .xki "InvalidChange" (.c "Unreadable") false, .xki "InvalidAddress" (.c "Unreadable") false, .xki "InvalidCommand" (.c "Unreadable") false, .xki "InvalidLine" (.c "Unreadable") false, .xki "InvalidText" (.c "Unreadable") false, .xki "InvalidRoom" (.c "Unreadable") false, .xki "InvalidCheckpoint" (.c "Unreadable") false, .xki "InvalidSkip" (.c "Unreadable") false, .xki "InvalidBlock" (.c "Unreadable") false, .xki "Unreadable" (.c "Unreadable") true, .xki "InvalidRow" (.c "Unreadable") false, .xki "Beyond" (.c "Unreadable") false, .xki "OutOfRange" (.c "Unreadable") false, .xki "NoName" (.c "Unreadable") false, .xki "TooMany" (.c "Unreadable") false, .xki "Nothing" (.c "Unreadable") false, .xki "Finished" (.c "Unreadable") false]
def fa12 : List Fy := [.xki "InvalidTest" (.t "ValueError") true, .xki "InvalidChange" (.t "ValueError") true, .xki "InvalidAddress" (.t "ValueError") true, .xki "InvalidCommand" (.t "ValueError") true, .xki "InvalidLine" (.t "ValueError") true, .xki "InvalidText" (.t "ValueError") true, .xki "InvalidRoom" (.t "ValueError") true, .xki "InvalidCheckpoint" (.t "ValueError") true, .xki "InvalidSkip" (.t "ValueError") true, .xki "InvalidBlock" (.t "ValueError") true, .xki "Unreadable" (.t "ValueError") true, .xki "InvalidRow" (.t "ValueError") true, .xki "Beyond" (.t "ValueError") true, .xki "OutOfRange" (.t "ValueError") false, .xki "NoName" (.t "ValueError") false, .xki "TooMany" (.t "ValueError") false, .xki "Nothing" (.t "ValueError") false, .xki "Finished" (.t "ValueError") false]
def fa : List Fy := fa0 ++ fa1 ++ fa2 ++ fa3 ++ fa4 ++ fa5 ++ fa6 ++ fa7 ++ fa8 ++ fa9 ++ fa10 ++ fa11 ++ fa12
abbrev file : Str := PW.main.file
structure En (K : PySem.W.Frag) (mg : Str → Option Value) : Prop where
  c : SaysY file fa fn K
  x : ∃ h : Heap, K.In h ∧ h.Ns mainGlobals mg
section
variable {w : World} {K : PySem.W.Frag} {mg : Str → Option Value} {base : Heap}
theorem gl (e : En K mg) (i : Nat) {x : Str} (h : fa[i]? = some (.m (.he (.glo x)))) : mg x = some (.ref (ga K x)) := by
  obtain ⟨hp, a, b⟩ := e.x
  exact glo_ok a b (e.c.fm i h)
theorem fr (e : En K mg) (i : Nat) {x : Str} (h : fa[i]? = some (.m (.he (.free x)))) : mg x = none := by
  obtain ⟨hp, a, b⟩ := e.x
  exact free_ok a b (e.c.fm i h)
theorem gi (e : En K mg) (i : Nat) {x : Str} {j : Int} (h : fa[i]? = some (.m (.he (.int x j)))) : ∃ t, mg x = some (.int j t) := by
  obtain ⟨hp, a, b⟩ := e.x
  exact int_ok a b (e.c.fm i h)
theorem gs (e : En K mg) (i : Nat) {x z : Str} (h : fa[i]? = some (.m (.he (.str x z)))) : ∃ t, mg x = some (.str z t) := by
  obtain ⟨hp, a, b⟩ := e.x
  exact str_ok a b (e.c.fm i h)
theorem d__law_draw (e : En K mg) : ∃ fd, FunD K "_law_draw" "_law_draw" (defArgs s__law_draw) (defBody s__law_draw) (defScope s__law_draw) [] [] (ga K "_law_draw") fd := DefM.funD (d := dm__law_draw) rfl (e.c.def_ 0 rfl).1 (e.c.def_ 0 rfl).2
theorem d__law_pick (e : En K mg) : ∃ fd, FunD K "_law_pick" "_law_pick" (defArgs s__law_pick) (defBody s__law_pick) (defScope s__law_pick) [] [] (ga K "_law_pick") fd := DefM.funD (d := dm__law_pick) rfl (e.c.def_ 1 rfl).1 (e.c.def_ 1 rfl).2
theorem d__law_any_value (e : En K mg) : ∃ fd, FunD K "_law_any_value" "_law_any_value" (defArgs s__law_any_value) (defBody s__law_any_value) (defScope s__law_any_value) [] [] (ga K "_law_any_value") fd := DefM.funD (d := dm__law_any_value) rfl (e.c.def_ 2 rfl).1 (e.c.def_ 2 rfl).2
theorem d__law_classes (e : En K mg) : ∃ fd, FunD K "_law_classes" "_law_classes" (defArgs s__law_classes) (defBody s__law_classes) (defScope s__law_classes) [] [] (ga K "_law_classes") fd := DefM.funD (d := dm__law_classes) rfl (e.c.def_ 3 rfl).1 (e.c.def_ 3 rfl).2
theorem d__law_pen (e : En K mg) : ∃ fd, FunD K "_law_pen" "_law_pen" (defArgs s__law_pen) (defBody s__law_pen) (defScope s__law_pen) [] [] (ga K "_law_pen") fd := DefM.funD (d := dm__law_pen) rfl (e.c.def_ 4 rfl).1 (e.c.def_ 4 rfl).2
theorem d_Beyond_init (e : En K mg) : ∃ fd, SupD PW K "__init__" "Beyond.__init__" (defArgs s_Beyond_init) (defBody s_Beyond_init) (defScope s_Beyond_init) (ga K "Beyond") (ma K (ga K "Beyond") "__init__") fd := DefM.supD (P := PW) (d := dm_Beyond_init) rfl (e.c.def_ 5 rfl).1 (e.c.def_ 5 rfl).2 (e.c.fm 25 rfl) (by decide +kernel)
theorem d_InvalidAddress_init (e : En K mg) : ∃ fd, SupD PW K "__init__" "InvalidAddress.__init__" (defArgs s_InvalidAddress_init) (defBody s_InvalidAddress_init) (defScope s_InvalidAddress_init) (ga K "InvalidAddress") (ma K (ga K "InvalidAddress") "__init__") fd := DefM.supD (P := PW) (d := dm_InvalidAddress_init) rfl (e.c.def_ 6 rfl).1 (e.c.def_ 6 rfl).2 (e.c.fm 25 rfl) (by decide +kernel)
theorem d_InvalidBlock_init (e : En K mg) : ∃ fd, SupD PW K "__init__" "InvalidBlock.__init__" (defArgs s_InvalidBlock_init) (defBody s_InvalidBlock_init) (defScope s_InvalidBlock_init) (ga K "InvalidBlock") (ma K (ga K "InvalidBlock") "__init__") fd := DefM.supD (P := PW) (d := dm_InvalidBlock_init) rfl (e.c.def_ 7 rfl).1 (e.c.def_ 7 rfl).2 (e.c.fm 25 rfl) (by decide +kernel)
theorem d_InvalidChange_init (e : En K mg) : ∃ fd, SupD PW K "__init__" "InvalidChange.__init__" (defArgs s_InvalidChange_init) (defBody s_InvalidChange_init) (defScope s_InvalidChange_init) (ga K "InvalidChange") (ma K (ga K "InvalidChange") "__init__") fd := DefM.supD (P := PW) (d := dm_InvalidChange_init) rfl (e.c.def_ 8 rfl).1 (e.c.def_ 8 rfl).2 (e.c.fm 25 rfl) (by decide +kernel)
theorem d_InvalidCheckpoint_init (e : En K mg) : ∃ fd, SupD PW K "__init__" "InvalidCheckpoint.__init__" (defArgs s_InvalidCheckpoint_init) (defBody s_InvalidCheckpoint_init) (defScope s_InvalidCheckpoint_init) (ga K "InvalidCheckpoint") (ma K (ga K "InvalidCheckpoint") "__init__") fd := DefM.supD (P := PW) (d := dm_InvalidCheckpoint_init) rfl (e.c.def_ 9 rfl).1 (e.c.def_ 9 rfl).2 (e.c.fm 25 rfl) (by decide +kernel)
theorem d_InvalidCommand_init (e : En K mg) : ∃ fd, SupD PW K "__init__" "InvalidCommand.__init__" (defArgs s_InvalidCommand_init) (defBody s_InvalidCommand_init) (defScope s_InvalidCommand_init) (ga K "InvalidCommand") (ma K (ga K "InvalidCommand") "__init__") fd := DefM.supD (P := PW) (d := dm_InvalidCommand_init) rfl (e.c.def_ 10 rfl).1 (e.c.def_ 10 rfl).2 (e.c.fm 25 rfl) (by decide +kernel)
theorem d_InvalidLine_init (e : En K mg) : ∃ fd, SupD PW K "__init__" "InvalidLine.__init__" (defArgs s_InvalidLine_init) (defBody s_InvalidLine_init) (defScope s_InvalidLine_init) (ga K "InvalidLine") (ma K (ga K "InvalidLine") "__init__") fd := DefM.supD (P := PW) (d := dm_InvalidLine_init) rfl (e.c.def_ 11 rfl).1 (e.c.def_ 11 rfl).2 (e.c.fm 25 rfl) (by decide +kernel)
theorem d_InvalidRoom_init (e : En K mg) : ∃ fd, SupD PW K "__init__" "InvalidRoom.__init__" (defArgs s_InvalidRoom_init) (defBody s_InvalidRoom_init) (defScope s_InvalidRoom_init) (ga K "InvalidRoom") (ma K (ga K "InvalidRoom") "__init__") fd := DefM.supD (P := PW) (d := dm_InvalidRoom_init) rfl (e.c.def_ 12 rfl).1 (e.c.def_ 12 rfl).2 (e.c.fm 25 rfl) (by decide +kernel)
theorem d_InvalidRow_init (e : En K mg) : ∃ fd, SupD PW K "__init__" "InvalidRow.__init__" (defArgs s_InvalidRow_init) (defBody s_InvalidRow_init) (defScope s_InvalidRow_init) (ga K "InvalidRow") (ma K (ga K "InvalidRow") "__init__") fd := DefM.supD (P := PW) (d := dm_InvalidRow_init) rfl (e.c.def_ 13 rfl).1 (e.c.def_ 13 rfl).2 (e.c.fm 25 rfl) (by decide +kernel)
theorem d_InvalidSkip_init (e : En K mg) : ∃ fd, SupD PW K "__init__" "InvalidSkip.__init__" (defArgs s_InvalidSkip_init) (defBody s_InvalidSkip_init) (defScope s_InvalidSkip_init) (ga K "InvalidSkip") (ma K (ga K "InvalidSkip") "__init__") fd := DefM.supD (P := PW) (d := dm_InvalidSkip_init) rfl (e.c.def_ 14 rfl).1 (e.c.def_ 14 rfl).2 (e.c.fm 25 rfl) (by decide +kernel)
theorem d_InvalidTest_init (e : En K mg) : ∃ fd, SupD PW K "__init__" "InvalidTest.__init__" (defArgs s_InvalidTest_init) (defBody s_InvalidTest_init) (defScope s_InvalidTest_init) (ga K "InvalidTest") (ma K (ga K "InvalidTest") "__init__") fd := DefM.supD (P := PW) (d := dm_InvalidTest_init) rfl (e.c.def_ 15 rfl).1 (e.c.def_ 15 rfl).2 (e.c.fm 25 rfl) (by decide +kernel)
theorem d_InvalidText_init (e : En K mg) : ∃ fd, SupD PW K "__init__" "InvalidText.__init__" (defArgs s_InvalidText_init) (defBody s_InvalidText_init) (defScope s_InvalidText_init) (ga K "InvalidText") (ma K (ga K "InvalidText") "__init__") fd := DefM.supD (P := PW) (d := dm_InvalidText_init) rfl (e.c.def_ 16 rfl).1 (e.c.def_ 16 rfl).2 (e.c.fm 25 rfl) (by decide +kernel)
theorem d_NoName_init (e : En K mg) : ∃ fd, SupD PW K "__init__" "NoName.__init__" (defArgs s_NoName_init) (defBody s_NoName_init) (defScope s_NoName_init) (ga K "NoName") (ma K (ga K "NoName") "__init__") fd := DefM.supD (P := PW) (d := dm_NoName_init) rfl (e.c.def_ 17 rfl).1 (e.c.def_ 17 rfl).2 (e.c.fm 25 rfl) (by decide +kernel)
theorem d_OutOfRange_init (e : En K mg) : ∃ fd, SupD PW K "__init__" "OutOfRange.__init__" (defArgs s_OutOfRange_init) (defBody s_OutOfRange_init) (defScope s_OutOfRange_init) (ga K "OutOfRange") (ma K (ga K "OutOfRange") "__init__") fd := DefM.supD (P := PW) (d := dm_OutOfRange_init) rfl (e.c.def_ 18 rfl).1 (e.c.def_ 18 rfl).2 (e.c.fm 25 rfl) (by decide +kernel)
theorem d_TooMany_init (e : En K mg) : ∃ fd, SupD PW K "__init__" "TooMany.__init__" (defArgs s_TooMany_init) (defBody s_TooMany_init) (defScope s_TooMany_init) (ga K "TooMany") (ma K (ga K "TooMany") "__init__") fd := DefM.supD (P := PW) (d := dm_TooMany_init) rfl (e.c.def_ 19 rfl).1 (e.c.def_ 19 rfl).2 (e.c.fm 25 rfl) (by decide +kernel)
theorem d_Unreadable_init (e : En K mg) : ∃ fd, SupD PW K "__init__" "Unreadable.__init__" (defArgs s_Unreadable_init) (defBody s_Unreadable_init) (defScope s_Unreadable_init) (ga K "Unreadable") (ma K (ga K "Unreadable") "__init__") fd := DefM.supD (P := PW) (d := dm_Unreadable_init) rfl (e.c.def_ 20 rfl).1 (e.c.def_ 20 rfl).2 (e.c.fm 25 rfl) (by decide +kernel)
theorem d__law_some_errors (e : En K mg) : ∃ fd, FunD K "_law_some_errors" "_law_some_errors" (defArgs s__law_some_errors) (defBody s__law_some_errors) (defScope s__law_some_errors) [] [] (ga K "_law_some_errors") fd := DefM.funD (d := dm__law_some_errors) rfl (e.c.def_ 21 rfl).1 (e.c.def_ 21 rfl).2
theorem d__law_sorts (e : En K mg) : ∃ fd, FunD K "_law_sorts" "_law_sorts" (defArgs s__law_sorts) (defBody s__law_sorts) (defScope s__law_sorts) [] [] (ga K "_law_sorts") fd := DefM.funD (d := dm__law_sorts) rfl (e.c.def_ 22 rfl).1 (e.c.def_ 22 rfl).2
theorem d_law (e : En K mg) : ∃ fd, FunD K "law" "law" (defArgs s_law) (defBody s_law) (defScope s_law) [] [] (ga K "law") fd := DefM.funD (d := dm_law) rfl (e.c.def_ 23 rfl).1 (e.c.def_ 23 rfl).2
def efl : List (Str × Str) := [("InvalidTest", "argument"), ("InvalidChange", "argument"), ("InvalidAddress", "argument"), ("InvalidCommand", "argument"), ("InvalidLine", "value"), ("InvalidText", "value"), ("InvalidRoom", "value"), ("InvalidCheckpoint", "value"), ("InvalidSkip", "index"), ("InvalidBlock", "index"), ("Unreadable", "index"), ("Unreadable", "place"), ("InvalidRow", "row"), ("Beyond", "bound"), ("OutOfRange", "value"), ("NoName", "name"), ("TooMany", "limit")]
theorem efl_ok (e : En K mg) : ∀ p ∈ efl, XfC K (ga K p.1) ∧ PySem.W.findIn K (.ref (ga K p.1)) p.2 = some none := by
  intro p hp
  simp only [efl, List.mem_cons, List.not_mem_nil, or_false] at hp
  rcases hp with rfl | rfl | rfl | rfl | rfl | rfl | rfl | rfl | rfl | rfl | rfl | rfl | rfl | rfl | rfl | rfl | rfl
  · exact fy_xfl (e.c.fact 47 rfl)
  · exact fy_xfl (e.c.fact 33 rfl)
  · exact fy_xfl (e.c.fact 29 rfl)
  · exact fy_xfl (e.c.fact 37 rfl)
  · exact fy_xfl (e.c.fact 39 rfl)
  · exact fy_xfl (e.c.fact 49 rfl)
  · exact fy_xfl (e.c.fact 41 rfl)
  · exact fy_xfl (e.c.fact 35 rfl)
  · exact fy_xfl (e.c.fact 45 rfl)
  · exact fy_xfl (e.c.fact 31 rfl)
  · exact fy_xfl (e.c.fact 57 rfl)
  · exact fy_xfl (e.c.fact 58 rfl)
  · exact fy_xfl (e.c.fact 43 rfl)
  · exact fy_xfl (e.c.fact 27 rfl)
  · exact fy_xfl (e.c.fact 53 rfl)
  · exact fy_xfl (e.c.fact 51 rfl)
  · exact fy_xfl (e.c.fact 55 rfl)
def iv_Beyond : List (Str × Bool) := [("InvalidTest", false), ("InvalidChange", false), ("InvalidAddress", false), ("InvalidCommand", false), ("InvalidLine", false), ("InvalidText", false), ("InvalidRoom", false), ("InvalidCheckpoint", false), ("InvalidSkip", false), ("InvalidBlock", false), ("Unreadable", false), ("InvalidRow", false), ("Beyond", true), ("OutOfRange", false), ("NoName", false), ("TooMany", false), ("Nothing", false), ("Finished", false)]
theorem iv_ok_Beyond (e : En K mg) : ∀ p ∈ iv_Beyond, ExcC K (ga K p.1) ∧ PySem.W.kitOne K (.ref (ga K p.1)) (vTy K (.c "Beyond")) = some p.2 := by
  intro p hp
  simp only [iv_Beyond, List.mem_cons, List.not_mem_nil, or_false] at hp
  rcases hp with rfl | rfl | rfl | rfl | rfl | rfl | rfl | rfl | rfl | rfl | rfl | rfl | rfl | rfl | rfl | rfl | rfl | rfl
  · exact ⟨fy_xis (e.c.fact 84 rfl), fy_xki (e.c.fact 85 rfl)⟩
  · exact ⟨fy_xis (e.c.fact 86 rfl), fy_xki (e.c.fact 87 rfl)⟩
  · exact ⟨fy_xis (e.c.fact 88 rfl), fy_xki (e.c.fact 89 rfl)⟩
  · exact ⟨fy_xis (e.c.fact 90 rfl), fy_xki (e.c.fact 91 rfl)⟩
  · exact ⟨fy_xis (e.c.fact 92 rfl), fy_xki (e.c.fact 93 rfl)⟩
  · exact ⟨fy_xis (e.c.fact 94 rfl), fy_xki (e.c.fact 95 rfl)⟩
  · exact ⟨fy_xis (e.c.fact 96 rfl), fy_xki (e.c.fact 97 rfl)⟩
  · exact ⟨fy_xis (e.c.fact 98 rfl), fy_xki (e.c.fact 99 rfl)⟩
  · exact ⟨fy_xis (e.c.fact 100 rfl), fy_xki (e.c.fact 101 rfl)⟩
  · exact ⟨fy_xis (e.c.fact 102 rfl), fy_xki (e.c.fact 103 rfl)⟩
  · exact ⟨fy_xis (e.c.fact 104 rfl), fy_xki (e.c.fact 105 rfl)⟩
  · exact ⟨fy_xis (e.c.fact 106 rfl), fy_xki (e.c.fact 107 rfl)⟩
  · exact ⟨fy_xis (e.c.fact 108 rfl), fy_xki (e.c.fact 109 rfl)⟩
  · exact ⟨fy_xis (e.c.fact 110 rfl), fy_xki (e.c.fact 111 rfl)⟩
  · exact ⟨fy_xis (e.c.fact 112 rfl), fy_xki (e.c.fact 113 rfl)⟩
  · exact ⟨fy_xis (e.c.fact 114 rfl), fy_xki (e.c.fact 115 rfl)⟩
  · exact ⟨fy_xis (e.c.fact 116 rfl), fy_xki (e.c.fact 117 rfl)⟩
  · exact ⟨fy_xis (e.c.fact 118 rfl), fy_xki (e.c.fact 119 rfl)⟩
def iv_Finished : List (Str × Bool) := [("InvalidTest", false), ("InvalidChange", false), ("InvalidAddress", false), ("InvalidCommand", false), ("InvalidLine", false), ("InvalidText", false), ("InvalidRoom", false), ("InvalidCheckpoint", false), ("InvalidSkip", false), ("InvalidBlock", false), ("Unreadable", false), ("InvalidRow", false), ("Beyond", false), ("OutOfRange", false), ("NoName", false), ("TooMany", false), ("Nothing", false), ("Finished", true)]
theorem iv_ok_Finished (e : En K mg) : ∀ p ∈ iv_Finished, ExcC K (ga K p.1) ∧ PySem.W.kitOne K (.ref (ga K p.1)) (vTy K (.c "Finished")) = some p.2 := by
  intro p hp
  simp only [iv_Finished, List.mem_cons, List.not_mem_nil, or_false] at hp
  rcases hp with rfl | rfl | rfl | rfl | rfl | rfl | rfl | rfl | rfl | rfl | rfl | rfl | rfl | rfl | rfl | rfl | rfl | rfl
  · exact ⟨fy_xis (e.c.fact 84 rfl), fy_xki (e.c.fact 120 rfl)⟩
  · exact ⟨fy_xis (e.c.fact 86 rfl), fy_xki (e.c.fact 121 rfl)⟩
  · exact ⟨fy_xis (e.c.fact 88 rfl), fy_xki (e.c.fact 122 rfl)⟩
  · exact ⟨fy_xis (e.c.fact 90 rfl), fy_xki (e.c.fact 123 rfl)⟩
  · exact ⟨fy_xis (e.c.fact 92 rfl), fy_xki (e.c.fact 124 rfl)⟩
  · exact ⟨fy_xis (e.c.fact 94 rfl), fy_xki (e.c.fact 125 rfl)⟩
  · exact ⟨fy_xis (e.c.fact 96 rfl), fy_xki (e.c.fact 126 rfl)⟩
  · exact ⟨fy_xis (e.c.fact 98 rfl), fy_xki (e.c.fact 127 rfl)⟩
  · exact ⟨fy_xis (e.c.fact 100 rfl), fy_xki (e.c.fact 128 rfl)⟩
  · exact ⟨fy_xis (e.c.fact 102 rfl), fy_xki (e.c.fact 129 rfl)⟩
  · exact ⟨fy_xis (e.c.fact 104 rfl), fy_xki (e.c.fact 130 rfl)⟩
  · exact ⟨fy_xis (e.c.fact 106 rfl), fy_xki (e.c.fact 131 rfl)⟩
  · exact ⟨fy_xis (e.c.fact 108 rfl), fy_xki (e.c.fact 132 rfl)⟩
  · exact ⟨fy_xis (e.c.fact 110 rfl), fy_xki (e.c.fact 133 rfl)⟩
  · exact ⟨fy_xis (e.c.fact 112 rfl), fy_xki (e.c.fact 134 rfl)⟩
  · exact ⟨fy_xis (e.c.fact 114 rfl), fy_xki (e.c.fact 135 rfl)⟩
  · exact ⟨fy_xis (e.c.fact 116 rfl), fy_xki (e.c.fact 136 rfl)⟩
  · exact ⟨fy_xis (e.c.fact 118 rfl), fy_xki (e.c.fact 137 rfl)⟩
def iv_InvalidAddress : List (Str × Bool) := [("InvalidTest", false), ("InvalidChange", false), ("InvalidAddress", true), ("InvalidCommand", false), ("InvalidLine", false), ("InvalidText", false), ("InvalidRoom", false), ("InvalidCheckpoint", false), ("InvalidSkip", false), ("InvalidBlock", false), ("Unreadable", false), ("InvalidRow", false), ("Beyond", false), ("OutOfRange", false), ("NoName", false), ("TooMany", false), ("Nothing", false), ("Finished", false)]
theorem iv_ok_InvalidAddress (e : En K mg) : ∀ p ∈ iv_InvalidAddress, ExcC K (ga K p.1) ∧ PySem.W.kitOne K (.ref (ga K p.1)) (vTy K (.c "InvalidAddress")) = some p.2 := by
  intro p hp
  simp only [iv_InvalidAddress, List.mem_cons, List.not_mem_nil, or_false] at hp
  rcases hp with rfl | rfl | rfl | rfl | rfl | rfl | rfl | rfl | rfl | rfl | rfl | rfl | rfl | rfl | rfl | rfl | rfl | rfl
  · exact ⟨fy_xis (e.c.fact 84 rfl), fy_xki (e.c.fact 138 rfl)⟩
  · exact ⟨fy_xis (e.c.fact 86 rfl), fy_xki (e.c.fact 139 rfl)⟩
  · exact ⟨fy_xis (e.c.fact 88 rfl), fy_xki (e.c.fact 140 rfl)⟩
  · exact ⟨fy_xis (e.c.fact 90 rfl), fy_xki (e.c.fact 141 rfl)⟩
  · exact ⟨fy_xis (e.c.fact 92 rfl), fy_xki (e.c.fact 142 rfl)⟩
  · exact ⟨fy_xis (e.c.fact 94 rfl), fy_xki (e.c.fact 143 rfl)⟩
  · exact ⟨fy_xis (e.c.fact 96 rfl), fy_xki (e.c.fact 144 rfl)⟩
  · exact ⟨fy_xis (e.c.fact 98 rfl), fy_xki (e.c.fact 145 rfl)⟩
  · exact ⟨fy_xis (e.c.fact 100 rfl), fy_xki (e.c.fact 146 rfl)⟩
  · exact ⟨fy_xis (e.c.fact 102 rfl), fy_xki (e.c.fact 147 rfl)⟩
  · exact ⟨fy_xis (e.c.fact 104 rfl), fy_xki (e.c.fact 148 rfl)⟩
  · exact ⟨fy_xis (e.c.fact 106 rfl), fy_xki (e.c.fact 149 rfl)⟩
  · exact ⟨fy_xis (e.c.fact 108 rfl), fy_xki (e.c.fact 150 rfl)⟩
  · exact ⟨fy_xis (e.c.fact 110 rfl), fy_xki (e.c.fact 151 rfl)⟩
  · exact ⟨fy_xis (e.c.fact 112 rfl), fy_xki (e.c.fact 152 rfl)⟩
  · exact ⟨fy_xis (e.c.fact 114 rfl), fy_xki (e.c.fact 153 rfl)⟩
  · exact ⟨fy_xis (e.c.fact 116 rfl), fy_xki (e.c.fact 154 rfl)⟩
  · exact ⟨fy_xis (e.c.fact 118 rfl), fy_xki (e.c.fact 155 rfl)⟩
def iv_InvalidBlock : List (Str × Bool) := [("InvalidTest", false), ("InvalidChange", false), ("InvalidAddress", false), ("InvalidCommand", false), ("InvalidLine", false), ("InvalidText", false), ("InvalidRoom", false), ("InvalidCheckpoint", false), ("InvalidSkip", false), ("InvalidBlock", true), ("Unreadable", false), ("InvalidRow", false), ("Beyond", false), ("OutOfRange", false), ("NoName", false), ("TooMany", false), ("Nothing", false), ("Finished", false)]
theorem iv_ok_InvalidBlock (e : En K mg) : ∀ p ∈ iv_InvalidBlock, ExcC K (ga K p.1) ∧ PySem.W.kitOne K (.ref (ga K p.1)) (vTy K (.c "InvalidBlock")) = some p.2 := by
  intro p hp
  simp only [iv_InvalidBlock, List.mem_cons, List.not_mem_nil, or_false] at hp
  rcases hp with rfl | rfl | rfl | rfl | rfl | rfl | rfl | rfl | rfl | rfl | rfl | rfl | rfl | rfl | rfl | rfl | rfl | rfl
  · exact ⟨fy_xis (e.c.fact 84 rfl), fy_xki (e.c.fact 156 rfl)⟩
  · exact ⟨fy_xis (e.c.fact 86 rfl), fy_xki (e.c.fact 157 rfl)⟩
  · exact ⟨fy_xis (e.c.fact 88 rfl), fy_xki (e.c.fact 158 rfl)⟩
  · exact ⟨fy_xis (e.c.fact 90 rfl), fy_xki (e.c.fact 159 rfl)⟩
  · exact ⟨fy_xis (e.c.fact 92 rfl), fy_xki (e.c.fact 160 rfl)⟩
  · exact ⟨fy_xis (e.c.fact 94 rfl), fy_xki (e.c.fact 161 rfl)⟩
  · exact ⟨fy_xis (e.c.fact 96 rfl), fy_xki (e.c.fact 162 rfl)⟩
  · exact ⟨fy_xis (e.c.fact 98 rfl), fy_xki (e.c.fact 163 rfl)⟩
  · exact ⟨fy_xis (e.c.fact 100 rfl), fy_xki (e.c.fact 164 rfl)⟩
  · exact ⟨fy_xis (e.c.fact 102 rfl), fy_xki (e.c.fact 165 rfl)⟩
  · exact ⟨fy_xis (e.c.fact 104 rfl), fy_xki (e.c.fact 166 rfl)⟩
  · exact ⟨fy_xis (e.c.fact 106 rfl), fy_xki (e.c.fact 167 rfl)⟩
  · exact ⟨fy_xis (e.c.fact 108 rfl), fy_xki (e.c.fact 168 rfl)⟩
  · exact ⟨fy_xis (e.c.fact 110 rfl), fy_xki (e.c.fact 169 rfl)⟩
  · exact ⟨fy_xis (e.c.fact 112 rfl), fy_xki (e.c.fact 170 rfl)⟩
  · exact ⟨fy_xis (e.c.fact 114 rfl), fy_xki (e.c.fact 171 rfl)⟩
  · exact ⟨fy_xis (e.c.fact 116 rfl), fy_xki (e.c.fact 172 rfl)⟩
  · exact ⟨fy_xis (e.c.fact 118 rfl), fy_xki (e.c.fact 173 rfl)⟩
def iv_InvalidChange : List (Str × Bool) := [("InvalidTest", false), ("InvalidChange", true), ("InvalidAddress", false), ("InvalidCommand", false), ("InvalidLine", false), ("InvalidText", false), ("InvalidRoom", false), ("InvalidCheckpoint", false), ("InvalidSkip", false), ("InvalidBlock", false), ("Unreadable", false), ("InvalidRow", false), ("Beyond", false), ("OutOfRange", false), ("NoName", false), ("TooMany", false), ("Nothing", false), ("Finished", false)]
theorem iv_ok_InvalidChange (e : En K mg) : ∀ p ∈ iv_InvalidChange, ExcC K (ga K p.1) ∧ PySem.W.kitOne K (.ref (ga K p.1)) (vTy K (.c "InvalidChange")) = some p.2 := by
  intro p hp
  simp only [iv_InvalidChange, List.mem_cons, List.not_mem_nil, or_false] at hp
  rcases hp with rfl | rfl | rfl | rfl | rfl | rfl | rfl | rfl | rfl | rfl | rfl | rfl | rfl | rfl | rfl | rfl | rfl | rfl
  · exact ⟨fy_xis (e.c.fact 84 rfl), fy_xki (e.c.fact 174 rfl)⟩
  · exact ⟨fy_xis (e.c.fact 86 rfl), fy_xki (e.c.fact 175 rfl)⟩
  · exact ⟨fy_xis (e.c.fact 88 rfl), fy_xki (e.c.fact 176 rfl)⟩
  · exact ⟨fy_xis (e.c.fact 90 rfl), fy_xki (e.c.fact 177 rfl)⟩
  · exact ⟨fy_xis (e.c.fact 92 rfl), fy_xki (e.c.fact 178 rfl)⟩
  · exact ⟨fy_xis (e.c.fact 94 rfl), fy_xki (e.c.fact 179 rfl)⟩
  · exact ⟨fy_xis (e.c.fact 96 rfl), fy_xki (e.c.fact 180 rfl)⟩
  · exact ⟨fy_xis (e.c.fact 98 rfl), fy_xki (e.c.fact 181 rfl)⟩
  · exact ⟨fy_xis (e.c.fact 100 rfl), fy_xki (e.c.fact 182 rfl)⟩
  · exact ⟨fy_xis (e.c.fact 102 rfl), fy_xki (e.c.fact 183 rfl)⟩
  · exact ⟨fy_xis (e.c.fact 104 rfl), fy_xki (e.c.fact 184 rfl)⟩
  · exact ⟨fy_xis (e.c.fact 106 rfl), fy_xki (e.c.fact 185 rfl)⟩
  · exact ⟨fy_xis (e.c.fact 108 rfl), fy_xki (e.c.fact 186 rfl)⟩
  · exact ⟨fy_xis (e.c.fact 110 rfl), fy_xki (e.c.fact 187 rfl)⟩
  · exact ⟨fy_xis (e.c.fact 112 rfl), fy_xki (e.c.fact 188 rfl)⟩
  · exact ⟨fy_xis (e.c.fact 114 rfl), fy_xki (e.c.fact 189 rfl)⟩
  · exact ⟨fy_xis (e.c.fact 116 rfl), fy_xki (e.c.fact 190 rfl)⟩
  · exact ⟨fy_xis (e.c.fact 118 rfl), fy_xki (e.c.fact 191 rfl)⟩
def iv_InvalidCheckpoint : List (Str × Bool) := [("InvalidTest", false), ("InvalidChange", false), ("InvalidAddress", false), ("InvalidCommand", false), ("InvalidLine", false), ("InvalidText", false), ("InvalidRoom", false), ("InvalidCheckpoint", true), ("InvalidSkip", false), ("InvalidBlock", false), ("Unreadable", false), ("InvalidRow", false), ("Beyond", false), ("OutOfRange", false), ("NoName", false), ("TooMany", false), ("Nothing", false), ("Finished", false)]
theorem iv_ok_InvalidCheckpoint (e : En K mg) : ∀ p ∈ iv_InvalidCheckpoint, ExcC K (ga K p.1) ∧ PySem.W.kitOne K (.ref (ga K p.1)) (vTy K (.c "InvalidCheckpoint")) = some p.2 := by
  intro p hp
  simp only [iv_InvalidCheckpoint, List.mem_cons, List.not_mem_nil, or_false] at hp
  rcases hp with rfl | rfl | rfl | rfl | rfl | rfl | rfl | rfl | rfl | rfl | rfl | rfl | rfl | rfl | rfl | rfl | rfl | rfl
  · exact ⟨fy_xis (e.c.fact 84 rfl), fy_xki (e.c.fact 192 rfl)⟩
  · exact ⟨fy_xis (e.c.fact 86 rfl), fy_xki (e.c.fact 193 rfl)⟩
  · exact ⟨fy_xis (e.c.fact 88 rfl), fy_xki (e.c.fact 194 rfl)⟩
  · exact ⟨fy_xis (e.c.fact 90 rfl), fy_xki (e.c.fact 195 rfl)⟩
  · exact ⟨fy_xis (e.c.fact 92 rfl), fy_xki (e.c.fact 196 rfl)⟩
  · exact ⟨fy_xis (e.c.fact 94 rfl), fy_xki (e.c.fact 197 rfl)⟩
  · exact ⟨fy_xis (e.c.fact 96 rfl), fy_xki (e.c.fact 198 rfl)⟩
  · exact ⟨fy_xis (e.c.fact 98 rfl), fy_xki (e.c.fact 199 rfl)⟩
  · exact ⟨fy_xis (e.c.fact 100 rfl), fy_xki (e.c.fact 200 rfl)⟩
  · exact ⟨fy_xis (e.c.fact 102 rfl), fy_xki (e.c.fact 201 rfl)⟩
  · exact ⟨fy_xis (e.c.fact 104 rfl), fy_xki (e.c.fact 202 rfl)⟩
  · exact ⟨fy_xis (e.c.fact 106 rfl), fy_xki (e.c.fact 203 rfl)⟩
  · exact ⟨fy_xis (e.c.fact 108 rfl), fy_xki (e.c.fact 204 rfl)⟩
  · exact ⟨fy_xis (e.c.fact 110 rfl), fy_xki (e.c.fact 205 rfl)⟩
  · exact ⟨fy_xis (e.c.fact 112 rfl), fy_xki (e.c.fact 206 rfl)⟩
  · exact ⟨fy_xis (e.c.fact 114 rfl), fy_xki (e.c.fact 207 rfl)⟩
  · exact ⟨fy_xis (e.c.fact 116 rfl), fy_xki (e.c.fact 208 rfl)⟩
  · exact ⟨fy_xis (e.c.fact 118 rfl), fy_xki (e.c.fact 209 rfl)⟩
def iv_InvalidCommand : List (Str × Bool) := [("InvalidTest", false), ("InvalidChange", false), ("InvalidAddress", false), ("InvalidCommand", true), ("InvalidLine", false), ("InvalidText", false), ("InvalidRoom", false), ("InvalidCheckpoint", false), ("InvalidSkip", false), ("InvalidBlock", false), ("Unreadable", false), ("InvalidRow", false), ("Beyond", false), ("OutOfRange", false), ("NoName", false), ("TooMany", false), ("Nothing", false), ("Finished", false)]
theorem iv_ok_InvalidCommand (e : En K mg) : ∀ p ∈ iv_InvalidCommand, ExcC K (ga K p.1) ∧ PySem.W.kitOne K (.ref (ga K p.1)) (vTy K (.c "InvalidCommand")) = some p.2 := by
  intro p hp
  simp only [iv_InvalidCommand, List.mem_cons, List.not_mem_nil, or_false] at hp
  rcases hp with rfl | rfl | rfl | rfl | rfl | rfl | rfl | rfl | rfl | rfl | rfl | rfl | rfl | rfl | rfl | rfl | rfl | rfl
  · exact ⟨fy_xis (e.c.fact 84 rfl), fy_xki (e.c.fact 210 rfl)⟩
  · exact ⟨fy_xis (e.c.fact 86 rfl), fy_xki (e.c.fact 211 rfl)⟩
  · exact ⟨fy_xis (e.c.fact 88 rfl), fy_xki (e.c.fact 212 rfl)⟩
  · exact ⟨fy_xis (e.c.fact 90 rfl), fy_xki (e.c.fact 213 rfl)⟩
  · exact ⟨fy_xis (e.c.fact 92 rfl), fy_xki (e.c.fact 214 rfl)⟩
  · exact ⟨fy_xis (e.c.fact 94 rfl), fy_xki (e.c.fact 215 rfl)⟩
  · exact ⟨fy_xis (e.c.fact 96 rfl), fy_xki (e.c.fact 216 rfl)⟩
  · exact ⟨fy_xis (e.c.fact 98 rfl), fy_xki (e.c.fact 217 rfl)⟩
  · exact ⟨fy_xis (e.c.fact 100 rfl), fy_xki (e.c.fact 218 rfl)⟩
  · exact ⟨fy_xis (e.c.fact 102 rfl), fy_xki (e.c.fact 219 rfl)⟩
  · exact ⟨fy_xis (e.c.fact 104 rfl), fy_xki (e.c.fact 220 rfl)⟩
  · exact ⟨fy_xis (e.c.fact 106 rfl), fy_xki (e.c.fact 221 rfl)⟩
  · exact ⟨fy_xis (e.c.fact 108 rfl), fy_xki (e.c.fact 222 rfl)⟩
  · exact ⟨fy_xis (e.c.fact 110 rfl), fy_xki (e.c.fact 223 rfl)⟩
  · exact ⟨fy_xis (e.c.fact 112 rfl), fy_xki (e.c.fact 224 rfl)⟩
  · exact ⟨fy_xis (e.c.fact 114 rfl), fy_xki (e.c.fact 225 rfl)⟩
  · exact ⟨fy_xis (e.c.fact 116 rfl), fy_xki (e.c.fact 226 rfl)⟩
  · exact ⟨fy_xis (e.c.fact 118 rfl), fy_xki (e.c.fact 227 rfl)⟩
def iv_InvalidLine : List (Str × Bool) := [("InvalidTest", false), ("InvalidChange", false), ("InvalidAddress", false), ("InvalidCommand", false), ("InvalidLine", true), ("InvalidText", false), ("InvalidRoom", false), ("InvalidCheckpoint", false), ("InvalidSkip", false), ("InvalidBlock", false), ("Unreadable", false), ("InvalidRow", false), ("Beyond", false), ("OutOfRange", false), ("NoName", false), ("TooMany", false), ("Nothing", false), ("Finished", false)]
theorem iv_ok_InvalidLine (e : En K mg) : ∀ p ∈ iv_InvalidLine, ExcC K (ga K p.1) ∧ PySem.W.kitOne K (.ref (ga K p.1)) (vTy K (.c "InvalidLine")) = some p.2 := by
  intro p hp
  simp only [iv_InvalidLine, List.mem_cons, List.not_mem_nil, or_false] at hp
  rcases hp with rfl | rfl | rfl | rfl | rfl | rfl | rfl | rfl | rfl | rfl | rfl | rfl | rfl | rfl | rfl | rfl | rfl | rfl
  · exact ⟨fy_xis (e.c.fact 84 rfl), fy_xki (e.c.fact 228 rfl)⟩
  · exact ⟨fy_xis (e.c.fact 86 rfl), fy_xki (e.c.fact 229 rfl)⟩
  · exact ⟨fy_xis (e.c.fact 88 rfl), fy_xki (e.c.fact 230 rfl)⟩
  · exact ⟨fy_xis (e.c.fact 90 rfl), fy_xki (e.c.fact 231 rfl)⟩
  · exact ⟨fy_xis (e.c.fact 92 rfl), fy_xki (e.c.fact 232 rfl)⟩
  · exact ⟨fy_xis (e.c.fact 94 rfl), fy_xki (e.c.fact 233 rfl)⟩
  · exact ⟨fy_xis (e.c.fact 96 rfl), fy_xki (e.c.fact 234 rfl)⟩
  · exact ⟨fy_xis (e.c.fact 98 rfl), fy_xki (e.c.fact 235 rfl)⟩
  · exact ⟨fy_xis (e.c.fact 100 rfl), fy_xki (e.c.fact 236 rfl)⟩
  · exact ⟨fy_xis (e.c.fact 102 rfl), fy_xki (e.c.fact 237 rfl)⟩
  · exact ⟨fy_xis (e.c.fact 104 rfl), fy_xki (e.c.fact 238 rfl)⟩
  · exact ⟨fy_xis (e.c.fact 106 rfl), fy_xki (e.c.fact 239 rfl)⟩
  · exact ⟨fy_xis (e.c.fact 108 rfl), fy_xki (e.c.fact 240 rfl)⟩
  · exact ⟨fy_xis (e.c.fact 110 rfl), fy_xki (e.c.fact 241 rfl)⟩
  · exact ⟨fy_xis (e.c.fact 112 rfl), fy_xki (e.c.fact 242 rfl)⟩
  · exact ⟨fy_xis (e.c.fact 114 rfl), fy_xki (e.c.fact 243 rfl)⟩
  · exact ⟨fy_xis (e.c.fact 116 rfl), fy_xki (e.c.fact 244 rfl)⟩
  · exact ⟨fy_xis (e.c.fact 118 rfl), fy_xki (e.c.fact 245 rfl)⟩
def iv_InvalidRoom : List (Str × Bool) := [("InvalidTest", false), ("InvalidChange", false), ("InvalidAddress", false), ("InvalidCommand", false), ("InvalidLine", false), ("InvalidText", false), ("InvalidRoom", true), ("InvalidCheckpoint", false), ("InvalidSkip", false), ("InvalidBlock", false), ("Unreadable", false), ("InvalidRow", false), ("Beyond", false), ("OutOfRange", false), ("NoName", false), ("TooMany", false), ("Nothing", false), ("Finished", false)]
theorem iv_ok_InvalidRoom (e : En K mg) : ∀ p ∈ iv_InvalidRoom, ExcC K (ga K p.1) ∧ PySem.W.kitOne K (.ref (ga K p.1)) (vTy K (.c "InvalidRoom")) = some p.2 := by
  intro p hp
  simp only [iv_InvalidRoom, List.mem_cons, List.not_mem_nil, or_false] at hp
  rcases hp with rfl | rfl | rfl | rfl | rfl | rfl | rfl | rfl | rfl | rfl | rfl | rfl | rfl | rfl | rfl | rfl | rfl | rfl
  · exact ⟨fy_xis (e.c.fact 84 rfl), fy_xki (e.c.fact 246 rfl)⟩
  · exact ⟨fy_xis (e.c.fact 86 rfl), fy_xki (e.c.fact 247 rfl)⟩
  · exact ⟨fy_xis (e.c.fact 88 rfl), fy_xki (e.c.fact 248 rfl)⟩
  · exact ⟨fy_xis (e.c.fact 90 rfl), fy_xki (e.c.fact 249 rfl)⟩
  · exact ⟨fy_xis (e.c.fact 92 rfl), fy_xki (e.c.fact 250 rfl)⟩
  · exact ⟨fy_xis (e.c.fact 94 rfl), fy_xki (e.c.fact 251 rfl)⟩
  · exact ⟨fy_xis (e.c.fact 96 rfl), fy_xki (e.c.fact 252 rfl)⟩
  · exact ⟨fy_xis (e.c.fact 98 rfl), fy_xki (e.c.fact 253 rfl)⟩
  · exact ⟨fy_xis (e.c.fact 100 rfl), fy_xki (e.c.fact 254 rfl)⟩
  · exact ⟨fy_xis (e.c.fact 102 rfl), fy_xki (e.c.fact 255 rfl)⟩
  · exact ⟨fy_xis (e.c.fact 104 rfl), fy_xki (e.c.fact 256 rfl)⟩
  · exact ⟨fy_xis (e.c.fact 106 rfl), fy_xki (e.c.fact 257 rfl)⟩
  · exact ⟨fy_xis (e.c.fact 108 rfl), fy_xki (e.c.fact 258 rfl)⟩
  · exact ⟨fy_xis (e.c.fact 110 rfl), fy_xki (e.c.fact 259 rfl)⟩
  · exact ⟨fy_xis (e.c.fact 112 rfl), fy_xki (e.c.fact 260 rfl)⟩
  · exact ⟨fy_xis (e.c.fact 114 rfl), fy_xki (e.c.fact 261 rfl)⟩
  · exact ⟨fy_xis (e.c.fact 116 rfl), fy_xki (e.c.fact 262 rfl)⟩
  · exact ⟨fy_xis (e.c.fact 118 rfl), fy_xki (e.c.fact 263 rfl)⟩
def iv_InvalidRow : List (Str × Bool) := [("InvalidTest", false), ("InvalidChange", false), ("InvalidAddress", false), ("InvalidCommand", false), ("InvalidLine", false), ("InvalidText", false), ("InvalidRoom", false), ("InvalidCheckpoint", false), ("InvalidSkip", false), ("InvalidBlock", false), ("Unreadable", false), ("InvalidRow", true), ("Beyond", false), ("OutOfRange", false), ("NoName", false), ("TooMany", false), ("Nothing", false), ("Finished", false)]
theorem iv_ok_InvalidRow (e : En K mg) : ∀ p ∈ iv_InvalidRow, ExcC K (ga K p.1) ∧ PySem.W.kitOne K (.ref (ga K p.1)) (vTy K (.c "InvalidRow")) = some p.2 := by
  intro p hp
  simp only [iv_InvalidRow, List.mem_cons, List.not_mem_nil, or_false] at hp
  rcases hp with rfl | rfl | rfl | rfl | rfl | rfl | rfl | rfl | rfl | rfl | rfl | rfl | rfl | rfl | rfl | rfl | rfl | rfl
  · exact ⟨fy_xis (e.c.fact 84 rfl), fy_xki (e.c.fact 264 rfl)⟩
  · exact ⟨fy_xis (e.c.fact 86 rfl), fy_xki (e.c.fact 265 rfl)⟩
  · exact ⟨fy_xis (e.c.fact 88 rfl), fy_xki (e.c.fact 266 rfl)⟩
  · exact ⟨fy_xis (e.c.fact 90 rfl), fy_xki (e.c.fact 267 rfl)⟩
  · exact ⟨fy_xis (e.c.fact 92 rfl), fy_xki (e.c.fact 268 rfl)⟩
  · exact ⟨fy_xis (e.c.fact 94 rfl), fy_xki (e.c.fact 269 rfl)⟩
  · exact ⟨fy_xis (e.c.fact 96 rfl), fy_xki (e.c.fact 270 rfl)⟩
  · exact ⟨fy_xis (e.c.fact 98 rfl), fy_xki (e.c.fact 271 rfl)⟩
  · exact ⟨fy_xis (e.c.fact 100 rfl), fy_xki (e.c.fact 272 rfl)⟩
  · exact ⟨fy_xis (e.c.fact 102 rfl), fy_xki (e.c.fact 273 rfl)⟩
  · exact ⟨fy_xis (e.c.fact 104 rfl), fy_xki (e.c.fact 274 rfl)⟩
  · exact ⟨fy_xis (e.c.fact 106 rfl), fy_xki (e.c.fact 275 rfl)⟩
  · exact ⟨fy_xis (e.c.fact 108 rfl), fy_xki (e.c.fact 276 rfl)⟩
  · exact ⟨fy_xis (e.c.fact 110 rfl), fy_xki (e.c.fact 277 rfl)⟩
  · exact ⟨fy_xis (e.c.fact 112 rfl), fy_xki (e.c.fact 278 rfl)⟩
  · exact ⟨fy_xis (e.c.fact 114 rfl), fy_xki (e.c.fact 279 rfl)⟩
  · exact ⟨fy_xis (e.c.fact 116 rfl), fy_xki (e.c.fact 280 rfl)⟩
  · exact ⟨fy_xis (e.c.fact 118 rfl), fy_xki (e.c.fact 281 rfl)⟩
def iv_InvalidSkip : List (Str × Bool) := [("InvalidTest", false), ("InvalidChange", false), ("InvalidAddress", false), ("InvalidCommand", false), ("InvalidLine", false), ("InvalidText", false), ("InvalidRoom", false), ("InvalidCheckpoint", false), ("InvalidSkip", true), ("InvalidBlock", false), ("Unreadable", false), ("InvalidRow", false), ("Beyond", false), ("OutOfRange", false), ("NoName", false), ("TooMany", false), ("Nothing", false), ("Finished", false)]
theorem iv_ok_InvalidSkip (e : En K mg) : ∀ p ∈ iv_InvalidSkip, ExcC K (ga K p.1) ∧ PySem.W.kitOne K (.ref (ga K p.1)) (vTy K (.c "InvalidSkip")) = some p.2 := by
  intro p hp
  simp only [iv_InvalidSkip, List.mem_cons, List.not_mem_nil, or_false] at hp
  rcases hp with rfl | rfl | rfl | rfl | rfl | rfl | rfl | rfl | rfl | rfl | rfl | rfl | rfl | rfl | rfl | rfl | rfl | rfl
  · exact ⟨fy_xis (e.c.fact 84 rfl), fy_xki (e.c.fact 282 rfl)⟩
  · exact ⟨fy_xis (e.c.fact 86 rfl), fy_xki (e.c.fact 283 rfl)⟩
  · exact ⟨fy_xis (e.c.fact 88 rfl), fy_xki (e.c.fact 284 rfl)⟩
  · exact ⟨fy_xis (e.c.fact 90 rfl), fy_xki (e.c.fact 285 rfl)⟩
  · exact ⟨fy_xis (e.c.fact 92 rfl), fy_xki (e.c.fact 286 rfl)⟩
  · exact ⟨fy_xis (e.c.fact 94 rfl), fy_xki (e.c.fact 287 rfl)⟩
  · exact ⟨fy_xis (e.c.fact 96 rfl), fy_xki (e.c.fact 288 rfl)⟩
  · exact ⟨fy_xis (e.c.fact 98 rfl), fy_xki (e.c.fact 289 rfl)⟩
  · exact ⟨fy_xis (e.c.fact 100 rfl), fy_xki (e.c.fact 290 rfl)⟩
  · exact ⟨fy_xis (e.c.fact 102 rfl), fy_xki (e.c.fact 291 rfl)⟩
  · exact ⟨fy_xis (e.c.fact 104 rfl), fy_xki (e.c.fact 292 rfl)⟩
  · exact ⟨fy_xis (e.c.fact 106 rfl), fy_xki (e.c.fact 293 rfl)⟩
  · exact ⟨fy_xis (e.c.fact 108 rfl), fy_xki (e.c.fact 294 rfl)⟩
  · exact ⟨fy_xis (e.c.fact 110 rfl), fy_xki (e.c.fact 295 rfl)⟩
  · exact ⟨fy_xis (e.c.fact 112 rfl), fy_xki (e.c.fact 296 rfl)⟩
  · exact ⟨fy_xis (e.c.fact 114 rfl), fy_xki (e.c.fact 297 rfl)⟩
  · exact ⟨fy_xis (e.c.fact 116 rfl), fy_xki (e.c.fact 298 rfl)⟩
  · exact ⟨fy_xis (e.c.fact 118 rfl), fy_xki (e.c.fact 299 rfl)⟩
def iv_InvalidTest : List (Str × Bool) := [("InvalidTest", true), ("InvalidChange", false), ("InvalidAddress", false), ("InvalidCommand", false), ("InvalidLine", false), ("InvalidText", false), ("InvalidRoom", false), ("InvalidCheckpoint", false), ("InvalidSkip", false), ("InvalidBlock", false), ("Unreadable", false), ("InvalidRow", false), ("Beyond", false), ("OutOfRange", false), ("NoName", false), ("TooMany", false), ("Nothing", false), ("Finished", false)]
theorem iv_ok_InvalidTest (e : En K mg) : ∀ p ∈ iv_InvalidTest, ExcC K (ga K p.1) ∧ PySem.W.kitOne K (.ref (ga K p.1)) (vTy K (.c "InvalidTest")) = some p.2 := by
  intro p hp
  simp only [iv_InvalidTest, List.mem_cons, List.not_mem_nil, or_false] at hp
  rcases hp with rfl | rfl | rfl | rfl | rfl | rfl | rfl | rfl | rfl | rfl | rfl | rfl | rfl | rfl | rfl | rfl | rfl | rfl
  · exact ⟨fy_xis (e.c.fact 84 rfl), fy_xki (e.c.fact 300 rfl)⟩
  · exact ⟨fy_xis (e.c.fact 86 rfl), fy_xki (e.c.fact 301 rfl)⟩
  · exact ⟨fy_xis (e.c.fact 88 rfl), fy_xki (e.c.fact 302 rfl)⟩
  · exact ⟨fy_xis (e.c.fact 90 rfl), fy_xki (e.c.fact 303 rfl)⟩
  · exact ⟨fy_xis (e.c.fact 92 rfl), fy_xki (e.c.fact 304 rfl)⟩
  · exact ⟨fy_xis (e.c.fact 94 rfl), fy_xki (e.c.fact 305 rfl)⟩
  · exact ⟨fy_xis (e.c.fact 96 rfl), fy_xki (e.c.fact 306 rfl)⟩
  · exact ⟨fy_xis (e.c.fact 98 rfl), fy_xki (e.c.fact 307 rfl)⟩
  · exact ⟨fy_xis (e.c.fact 100 rfl), fy_xki (e.c.fact 308 rfl)⟩
  · exact ⟨fy_xis (e.c.fact 102 rfl), fy_xki (e.c.fact 309 rfl)⟩
  · exact ⟨fy_xis (e.c.fact 104 rfl), fy_xki (e.c.fact 310 rfl)⟩
  · exact ⟨fy_xis (e.c.fact 106 rfl), fy_xki (e.c.fact 311 rfl)⟩
  · exact ⟨fy_xis (e.c.fact 108 rfl), fy_xki (e.c.fact 312 rfl)⟩
  · exact ⟨fy_xis (e.c.fact 110 rfl), fy_xki (e.c.fact 313 rfl)⟩
  · exact ⟨fy_xis (e.c.fact 112 rfl), fy_xki (e.c.fact 314 rfl)⟩
  · exact ⟨fy_xis (e.c.fact 114 rfl), fy_xki (e.c.fact 315 rfl)⟩
  · exact ⟨fy_xis (e.c.fact 116 rfl), fy_xki (e.c.fact 316 rfl)⟩
  · exact ⟨fy_xis (e.c.fact 118 rfl), fy_xki (e.c.fact 317 rfl)⟩
def iv_InvalidText : List (Str × Bool) := [("InvalidTest", false), ("InvalidChange", false), ("InvalidAddress", false), ("InvalidCommand", false), ("InvalidLine", false), ("InvalidText", true), ("InvalidRoom", false), ("InvalidCheckpoint", false), ("InvalidSkip", false), ("InvalidBlock", false), ("Unreadable", false), ("InvalidRow", false), ("Beyond", false), ("OutOfRange", false), ("NoName", false), ("TooMany", false), ("Nothing", false), ("Finished", false)]
theorem iv_ok_InvalidText (e : En K mg) : ∀ p ∈ iv_InvalidText, ExcC K (ga K p.1) ∧ PySem.W.kitOne K (.ref (ga K p.1)) (vTy K (.c "InvalidText")) = some p.2 := by
  intro p hp
  simp only [iv_InvalidText, List.mem_cons, List.not_mem_nil, or_false] at hp
  rcases hp with rfl | rfl | rfl | rfl | rfl | rfl | rfl | rfl | rfl | rfl | rfl | rfl | rfl | rfl | rfl | rfl | rfl | rfl
  · exact ⟨fy_xis (e.c.fact 84 rfl), fy_xki (e.c.fact 318 rfl)⟩
  · exact ⟨fy_xis (e.c.fact 86 rfl), fy_xki (e.c.fact 319 rfl)⟩
  · exact ⟨fy_xis (e.c.fact 88 rfl), fy_xki (e.c.fact 320 rfl)⟩
  · exact ⟨fy_xis (e.c.fact 90 rfl), fy_xki (e.c.fact 321 rfl)⟩
  · exact ⟨fy_xis (e.c.fact 92 rfl), fy_xki (e.c.fact 322 rfl)⟩
  · exact ⟨fy_xis (e.c.fact 94 rfl), fy_xki (e.c.fact 323 rfl)⟩
  · exact ⟨fy_xis (e.c.fact 96 rfl), fy_xki (e.c.fact 324 rfl)⟩
  · exact ⟨fy_xis (e.c.fact 98 rfl), fy_xki (e.c.fact 325 rfl)⟩
  · exact ⟨fy_xis (e.c.fact 100 rfl), fy_xki (e.c.fact 326 rfl)⟩
  · exact ⟨fy_xis (e.c.fact 102 rfl), fy_xki (e.c.fact 327 rfl)⟩
  · exact ⟨fy_xis (e.c.fact 104 rfl), fy_xki (e.c.fact 328 rfl)⟩
  · exact ⟨fy_xis (e.c.fact 106 rfl), fy_xki (e.c.fact 329 rfl)⟩
  · exact ⟨fy_xis (e.c.fact 108 rfl), fy_xki (e.c.fact 330 rfl)⟩
  · exact ⟨fy_xis (e.c.fact 110 rfl), fy_xki (e.c.fact 331 rfl)⟩
  · exact ⟨fy_xis (e.c.fact 112 rfl), fy_xki (e.c.fact 332 rfl)⟩
  · exact ⟨fy_xis (e.c.fact 114 rfl), fy_xki (e.c.fact 333 rfl)⟩
  · exact ⟨fy_xis (e.c.fact 116 rfl), fy_xki (e.c.fact 334 rfl)⟩
  · exact ⟨fy_xis (e.c.fact 118 rfl), fy_xki (e.c.fact 335 rfl)⟩
def iv_LookupError : List (Str × Bool) := [("InvalidTest", false), ("InvalidChange", false), ("InvalidAddress", false), ("InvalidCommand", false), ("InvalidLine", false), ("InvalidText", false), ("InvalidRoom", false), ("InvalidCheckpoint", false), ("InvalidSkip", false), ("InvalidBlock", false), ("Unreadable", false), ("InvalidRow", false), ("Beyond", false), ("OutOfRange", true), ("NoName", true), ("TooMany", false), ("Nothing", true), ("Finished", false)]
theorem iv_ok_LookupError (e : En K mg) : ∀ p ∈ iv_LookupError, ExcC K (ga K p.1) ∧ PySem.W.kitOne K (.ref (ga K p.1)) (vTy K (.t "LookupError")) = some p.2 := by
  intro p hp
  simp only [iv_LookupError, List.mem_cons, List.not_mem_nil, or_false] at hp
  rcases hp with rfl | rfl | rfl | rfl | rfl | rfl | rfl | rfl | rfl | rfl | rfl | rfl | rfl | rfl | rfl | rfl | rfl | rfl
  · exact ⟨fy_xis (e.c.fact 84 rfl), fy_xki (e.c.fact 336 rfl)⟩
  · exact ⟨fy_xis (e.c.fact 86 rfl), fy_xki (e.c.fact 337 rfl)⟩
  · exact ⟨fy_xis (e.c.fact 88 rfl), fy_xki (e.c.fact 338 rfl)⟩
  · exact ⟨fy_xis (e.c.fact 90 rfl), fy_xki (e.c.fact 339 rfl)⟩
  · exact ⟨fy_xis (e.c.fact 92 rfl), fy_xki (e.c.fact 340 rfl)⟩
  · exact ⟨fy_xis (e.c.fact 94 rfl), fy_xki (e.c.fact 341 rfl)⟩
  · exact ⟨fy_xis (e.c.fact 96 rfl), fy_xki (e.c.fact 342 rfl)⟩
  · exact ⟨fy_xis (e.c.fact 98 rfl), fy_xki (e.c.fact 343 rfl)⟩
  · exact ⟨fy_xis (e.c.fact 100 rfl), fy_xki (e.c.fact 344 rfl)⟩
  · exact ⟨fy_xis (e.c.fact 102 rfl), fy_xki (e.c.fact 345 rfl)⟩
  · exact ⟨fy_xis (e.c.fact 104 rfl), fy_xki (e.c.fact 346 rfl)⟩
  · exact ⟨fy_xis (e.c.fact 106 rfl), fy_xki (e.c.fact 347 rfl)⟩
  · exact ⟨fy_xis (e.c.fact 108 rfl), fy_xki (e.c.fact 348 rfl)⟩
  · exact ⟨fy_xis (e.c.fact 110 rfl), fy_xki (e.c.fact 349 rfl)⟩
  · exact ⟨fy_xis (e.c.fact 112 rfl), fy_xki (e.c.fact 350 rfl)⟩
  · exact ⟨fy_xis (e.c.fact 114 rfl), fy_xki (e.c.fact 351 rfl)⟩
  · exact ⟨fy_xis (e.c.fact 116 rfl), fy_xki (e.c.fact 352 rfl)⟩
  · exact ⟨fy_xis (e.c.fact 118 rfl), fy_xki (e.c.fact 353 rfl)⟩
def iv_NoName : List (Str × Bool) := [("InvalidTest", false), ("InvalidChange", false), ("InvalidAddress", false), ("InvalidCommand", false), ("InvalidLine", false), ("InvalidText", false), ("InvalidRoom", false), ("InvalidCheckpoint", false), ("InvalidSkip", false), ("InvalidBlock", false), ("Unreadable", false), ("InvalidRow", false), ("Beyond", false), ("OutOfRange", false), ("NoName", true), ("TooMany", false), ("Nothing", false), ("Finished", false)]
theorem iv_ok_NoName (e : En K mg) : ∀ p ∈ iv_NoName, ExcC K (ga K p.1) ∧ PySem.W.kitOne K (.ref (ga K p.1)) (vTy K (.c "NoName")) = some p.2 := by
  intro p hp
  simp only [iv_NoName, List.mem_cons, List.not_mem_nil, or_false] at hp
  rcases hp with rfl | rfl | rfl | rfl | rfl | rfl | rfl | rfl | rfl | rfl | rfl | rfl | rfl | rfl | rfl | rfl | rfl | rfl
  · exact ⟨fy_xis (e.c.fact 84 rfl), fy_xki (e.c.fact 354 rfl)⟩
  · exact ⟨fy_xis (e.c.fact 86 rfl), fy_xki (e.c.fact 355 rfl)⟩
  · exact ⟨fy_xis (e.c.fact 88 rfl), fy_xki (e.c.fact 356 rfl)⟩
  · exact ⟨fy_xis (e.c.fact 90 rfl), fy_xki (e.c.fact 357 rfl)⟩
  · exact ⟨fy_xis (e.c.fact 92 rfl), fy_xki (e.c.fact 358 rfl)⟩
  · exact ⟨fy_xis (e.c.fact 94 rfl), fy_xki (e.c.fact 359 rfl)⟩
  · exact ⟨fy_xis (e.c.fact 96 rfl), fy_xki (e.c.fact 360 rfl)⟩
  · exact ⟨fy_xis (e.c.fact 98 rfl), fy_xki (e.c.fact 361 rfl)⟩
  · exact ⟨fy_xis (e.c.fact 100 rfl), fy_xki (e.c.fact 362 rfl)⟩
  · exact ⟨fy_xis (e.c.fact 102 rfl), fy_xki (e.c.fact 363 rfl)⟩
  · exact ⟨fy_xis (e.c.fact 104 rfl), fy_xki (e.c.fact 364 rfl)⟩
  · exact ⟨fy_xis (e.c.fact 106 rfl), fy_xki (e.c.fact 365 rfl)⟩
  · exact ⟨fy_xis (e.c.fact 108 rfl), fy_xki (e.c.fact 366 rfl)⟩
  · exact ⟨fy_xis (e.c.fact 110 rfl), fy_xki (e.c.fact 367 rfl)⟩
  · exact ⟨fy_xis (e.c.fact 112 rfl), fy_xki (e.c.fact 368 rfl)⟩
  · exact ⟨fy_xis (e.c.fact 114 rfl), fy_xki (e.c.fact 369 rfl)⟩
  · exact ⟨fy_xis (e.c.fact 116 rfl), fy_xki (e.c.fact 370 rfl)⟩
  · exact ⟨fy_xis (e.c.fact 118 rfl), fy_xki (e.c.fact 371 rfl)⟩
def iv_Nothing : List (Str × Bool) := [("InvalidTest", false), ("InvalidChange", false), ("InvalidAddress", false), ("InvalidCommand", false), ("InvalidLine", false), ("InvalidText", false), ("InvalidRoom", false), ("InvalidCheckpoint", false), ("InvalidSkip", false), ("InvalidBlock", false), ("Unreadable", false), ("InvalidRow", false), ("Beyond", false), ("OutOfRange", false), ("NoName", false), ("TooMany", false), ("Nothing", true), ("Finished", false)]
theorem iv_ok_Nothing (e : En K mg) : ∀ p ∈ iv_Nothing, ExcC K (ga K p.1) ∧ PySem.W.kitOne K (.ref (ga K p.1)) (vTy K (.c "Nothing")) = some p.2 := by
  intro p hp
  simp only [iv_Nothing, List.mem_cons, List.not_mem_nil, or_false] at hp
  rcases hp with rfl | rfl | rfl | rfl | rfl | rfl | rfl | rfl | rfl | rfl | rfl | rfl | rfl | rfl | rfl | rfl | rfl | rfl
  · exact ⟨fy_xis (e.c.fact 84 rfl), fy_xki (e.c.fact 372 rfl)⟩
  · exact ⟨fy_xis (e.c.fact 86 rfl), fy_xki (e.c.fact 373 rfl)⟩
  · exact ⟨fy_xis (e.c.fact 88 rfl), fy_xki (e.c.fact 374 rfl)⟩
  · exact ⟨fy_xis (e.c.fact 90 rfl), fy_xki (e.c.fact 375 rfl)⟩
  · exact ⟨fy_xis (e.c.fact 92 rfl), fy_xki (e.c.fact 376 rfl)⟩
  · exact ⟨fy_xis (e.c.fact 94 rfl), fy_xki (e.c.fact 377 rfl)⟩
  · exact ⟨fy_xis (e.c.fact 96 rfl), fy_xki (e.c.fact 378 rfl)⟩
  · exact ⟨fy_xis (e.c.fact 98 rfl), fy_xki (e.c.fact 379 rfl)⟩
  · exact ⟨fy_xis (e.c.fact 100 rfl), fy_xki (e.c.fact 380 rfl)⟩
  · exact ⟨fy_xis (e.c.fact 102 rfl), fy_xki (e.c.fact 381 rfl)⟩
  · exact ⟨fy_xis (e.c.fact 104 rfl), fy_xki (e.c.fact 382 rfl)⟩
  · exact ⟨fy_xis (e.c.fact 106 rfl), fy_xki (e.c.fact 383 rfl)⟩
  · exact ⟨fy_xis (e.c.fact 108 rfl), fy_xki (e.c.fact 384 rfl)⟩
  · exact ⟨fy_xis (e.c.fact 110 rfl), fy_xki (e.c.fact 385 rfl)⟩
  · exact ⟨fy_xis (e.c.fact 112 rfl), fy_xki (e.c.fact 386 rfl)⟩
  · exact ⟨fy_xis (e.c.fact 114 rfl), fy_xki (e.c.fact 387 rfl)⟩
  · exact ⟨fy_xis (e.c.fact 116 rfl), fy_xki (e.c.fact 388 rfl)⟩
  · exact ⟨fy_xis (e.c.fact 118 rfl), fy_xki (e.c.fact 389 rfl)⟩
def iv_OutOfRange : List (Str × Bool) := [("InvalidTest", false), ("InvalidChange", false), ("InvalidAddress", false), ("InvalidCommand", false), ("InvalidLine", false), ("InvalidText", false), ("InvalidRoom", false), ("InvalidCheckpoint", false), ("InvalidSkip", false), ("InvalidBlock", false), ("Unreadable", false), ("InvalidRow", false), ("Beyond", false), ("OutOfRange", true), ("NoName", false), ("TooMany", false), ("Nothing", false), ("Finished", false)]
theorem iv_ok_OutOfRange (e : En K mg) : ∀ p ∈ iv_OutOfRange, ExcC K (ga K p.1) ∧ PySem.W.kitOne K (.ref (ga K p.1)) (vTy K (.c "OutOfRange")) = some p.2 := by
  intro p hp
  simp only [iv_OutOfRange, List.mem_cons, List.not_mem_nil, or_false] at hp
  rcases hp with rfl | rfl | rfl | rfl | rfl | rfl | rfl | rfl | rfl | rfl | rfl | rfl | rfl | rfl | rfl | rfl | rfl | rfl
  · exact ⟨fy_xis (e.c.fact 84 rfl), fy_xki (e.c.fact 390 rfl)⟩
  · exact ⟨fy_xis (e.c.fact 86 rfl), fy_xki (e.c.fact 391 rfl)⟩
  · exact ⟨fy_xis (e.c.fact 88 rfl), fy_xki (e.c.fact 392 rfl)⟩
  · exact ⟨fy_xis (e.c.fact 90 rfl), fy_xki (e.c.fact 393 rfl)⟩
  · exact ⟨fy_xis (e.c.fact 92 rfl), fy_xki (e.c.fact 394 rfl)⟩
  · exact ⟨fy_xis (e.c.fact 94 rfl), fy_xki (e.c.fact 395 rfl)⟩
  · exact ⟨fy_xis (e.c.fact 96 rfl), fy_xki (e.c.fact 396 rfl)⟩
  · exact ⟨fy_xis (e.c.fact 98 rfl), fy_xki (e.c.fact 397 rfl)⟩
  · exact ⟨fy_xis (e.c.fact 100 rfl), fy_xki (e.c.fact 398 rfl)⟩
  · exact ⟨fy_xis (e.c.fact 102 rfl), fy_xki (e.c.fact 399 rfl)⟩
  · exact ⟨fy_xis (e.c.fact 104 rfl), fy_xki (e.c.fact 400 rfl)⟩
  · exact ⟨fy_xis (e.c.fact 106 rfl), fy_xki (e.c.fact 401 rfl)⟩
  · exact ⟨fy_xis (e.c.fact 108 rfl), fy_xki (e.c.fact 402 rfl)⟩
  · exact ⟨fy_xis (e.c.fact 110 rfl), fy_xki (e.c.fact 403 rfl)⟩
  · exact ⟨fy_xis (e.c.fact 112 rfl), fy_xki (e.c.fact 404 rfl)⟩
  · exact ⟨fy_xis (e.c.fact 114 rfl), fy_xki (e.c.fact 405 rfl)⟩
  · exact ⟨fy_xis (e.c.fact 116 rfl), fy_xki (e.c.fact 406 rfl)⟩
  · exact ⟨fy_xis (e.c.fact 118 rfl), fy_xki (e.c.fact 407 rfl)⟩
def iv_OverflowError : List (Str × Bool) := [("InvalidTest", false), ("InvalidChange", false), ("InvalidAddress", false), ("InvalidCommand", false), ("InvalidLine", false), ("InvalidText", false), ("InvalidRoom", false), ("InvalidCheckpoint", false), ("InvalidSkip", false), ("InvalidBlock", false), ("Unreadable", false), ("InvalidRow", false), ("Beyond", false), ("OutOfRange", false), ("NoName", false), ("TooMany", true), ("Nothing", false), ("Finished", false)]
theorem iv_ok_OverflowError (e : En K mg) : ∀ p ∈ iv_OverflowError, ExcC K (ga K p.1) ∧ PySem.W.kitOne K (.ref (ga K p.1)) (vTy K (.t "OverflowError")) = some p.2 := by
  intro p hp
  simp only [iv_OverflowError, List.mem_cons, List.not_mem_nil, or_false] at hp
  rcases hp with rfl | rfl | rfl | rfl | rfl | rfl | rfl | rfl | rfl | rfl | rfl | rfl | rfl | rfl | rfl | rfl | rfl | rfl
  · exact ⟨fy_xis (e.c.fact 84 rfl), fy_xki (e.c.fact 408 rfl)⟩
  · exact ⟨fy_xis (e.c.fact 86 rfl), fy_xki (e.c.fact 409 rfl)⟩
  · exact ⟨fy_xis (e.c.fact 88 rfl), fy_xki (e.c.fact 410 rfl)⟩
  · exact ⟨fy_xis (e.c.fact 90 rfl), fy_xki (e.c.fact 411 rfl)⟩
  · exact ⟨fy_xis (e.c.fact 92 rfl), fy_xki (e.c.fact 412 rfl)⟩
  · exact ⟨fy_xis (e.c.fact 94 rfl), fy_xki (e.c.fact 413 rfl)⟩
  · exact ⟨fy_xis (e.c.fact 96 rfl), fy_xki (e.c.fact 414 rfl)⟩
  · exact ⟨fy_xis (e.c.fact 98 rfl), fy_xki (e.c.fact 415 rfl)⟩
  · exact ⟨fy_xis (e.c.fact 100 rfl), fy_xki (e.c.fact 416 rfl)⟩
  · exact ⟨fy_xis (e.c.fact 102 rfl), fy_xki (e.c.fact 417 rfl)⟩
  · exact ⟨fy_xis (e.c.fact 104 rfl), fy_xki (e.c.fact 418 rfl)⟩
  · exact ⟨fy_xis (e.c.fact 106 rfl), fy_xki (e.c.fact 419 rfl)⟩
  · exact ⟨fy_xis (e.c.fact 108 rfl), fy_xki (e.c.fact 420 rfl)⟩
  · exact ⟨fy_xis (e.c.fact 110 rfl), fy_xki (e.c.fact 421 rfl)⟩
  · exact ⟨fy_xis (e.c.fact 112 rfl), fy_xki (e.c.fact 422 rfl)⟩
  · exact ⟨fy_xis (e.c.fact 114 rfl), fy_xki (e.c.fact 423 rfl)⟩
  · exact ⟨fy_xis (e.c.fact 116 rfl), fy_xki (e.c.fact 424 rfl)⟩
  · exact ⟨fy_xis (e.c.fact 118 rfl), fy_xki (e.c.fact 425 rfl)⟩
def iv_RuntimeError : List (Str × Bool) := [("InvalidTest", false), ("InvalidChange", false), ("InvalidAddress", false), ("InvalidCommand", false), ("InvalidLine", false), ("InvalidText", false), ("InvalidRoom", false), ("InvalidCheckpoint", false), ("InvalidSkip", false), ("InvalidBlock", false), ("Unreadable", false), ("InvalidRow", false), ("Beyond", false), ("OutOfRange", false), ("NoName", false), ("TooMany", false), ("Nothing", false), ("Finished", true)]
theorem iv_ok_RuntimeError (e : En K mg) : ∀ p ∈ iv_RuntimeError, ExcC K (ga K p.1) ∧ PySem.W.kitOne K (.ref (ga K p.1)) (vTy K (.t "RuntimeError")) = some p.2 := by
  intro p hp
  simp only [iv_RuntimeError, List.mem_cons, List.not_mem_nil, or_false] at hp
  rcases hp with rfl | rfl | rfl | rfl | rfl | rfl | rfl | rfl | rfl | rfl | rfl | rfl | rfl | rfl | rfl | rfl | rfl | rfl
  · exact ⟨fy_xis (e.c.fact 84 rfl), fy_xki (e.c.fact 426 rfl)⟩
  · exact ⟨fy_xis (e.c.fact 86 rfl), fy_xki (e.c.fact 427 rfl)⟩
  · exact ⟨fy_xis (e.c.fact 88 rfl), fy_xki (e.c.fact 428 rfl)⟩
  · exact ⟨fy_xis (e.c.fact 90 rfl), fy_xki (e.c.fact 429 rfl)⟩
  · exact ⟨fy_xis (e.c.fact 92 rfl), fy_xki (e.c.fact 430 rfl)⟩
  · exact ⟨fy_xis (e.c.fact 94 rfl), fy_xki (e.c.fact 431 rfl)⟩
  · exact ⟨fy_xis (e.c.fact 96 rfl), fy_xki (e.c.fact 432 rfl)⟩
  · exact ⟨fy_xis (e.c.fact 98 rfl), fy_xki (e.c.fact 433 rfl)⟩
  · exact ⟨fy_xis (e.c.fact 100 rfl), fy_xki (e.c.fact 434 rfl)⟩
  · exact ⟨fy_xis (e.c.fact 102 rfl), fy_xki (e.c.fact 435 rfl)⟩
  · exact ⟨fy_xis (e.c.fact 104 rfl), fy_xki (e.c.fact 436 rfl)⟩
  · exact ⟨fy_xis (e.c.fact 106 rfl), fy_xki (e.c.fact 437 rfl)⟩
  · exact ⟨fy_xis (e.c.fact 108 rfl), fy_xki (e.c.fact 438 rfl)⟩
  · exact ⟨fy_xis (e.c.fact 110 rfl), fy_xki (e.c.fact 439 rfl)⟩
  · exact ⟨fy_xis (e.c.fact 112 rfl), fy_xki (e.c.fact 440 rfl)⟩
  · exact ⟨fy_xis (e.c.fact 114 rfl), fy_xki (e.c.fact 441 rfl)⟩
  · exact ⟨fy_xis (e.c.fact 116 rfl), fy_xki (e.c.fact 442 rfl)⟩
  · exact ⟨fy_xis (e.c.fact 118 rfl), fy_xki (e.c.fact 443 rfl)⟩
def iv_TooMany : List (Str × Bool) := [("InvalidTest", false), ("InvalidChange", false), ("InvalidAddress", false), ("InvalidCommand", false), ("InvalidLine", false), ("InvalidText", false), ("InvalidRoom", false), ("InvalidCheckpoint", false), ("InvalidSkip", false), ("InvalidBlock", false), ("Unreadable", false), ("InvalidRow", false), ("Beyond", false), ("OutOfRange", false), ("NoName", false), ("TooMany", true), ("Nothing", false), ("Finished", false)]
theorem iv_ok_TooMany (e : En K mg) : ∀ p ∈ iv_TooMany, ExcC K (ga K p.1) ∧ PySem.W.kitOne K (.ref (ga K p.1)) (vTy K (.c "TooMany")) = some p.2 := by
  intro p hp
  simp only [iv_TooMany, List.mem_cons, List.not_mem_nil, or_false] at hp
  rcases hp with rfl | rfl | rfl | rfl | rfl | rfl | rfl | rfl | rfl | rfl | rfl | rfl | rfl | rfl | rfl | rfl | rfl | rfl
  · exact ⟨fy_xis (e.c.fact 84 rfl), fy_xki (e.c.fact 444 rfl)⟩
  · exact ⟨fy_xis (e.c.fact 86 rfl), fy_xki (e.c.fact 445 rfl)⟩
  · exact ⟨fy_xis (e.c.fact 88 rfl), fy_xki (e.c.fact 446 rfl)⟩
  · exact ⟨fy_xis (e.c.fact 90 rfl), fy_xki (e.c.fact 447 rfl)⟩
  · exact ⟨fy_xis (e.c.fact 92 rfl), fy_xki (e.c.fact 448 rfl)⟩
  · exact ⟨fy_xis (e.c.fact 94 rfl), fy_xki (e.c.fact 449 rfl)⟩
  · exact ⟨fy_xis (e.c.fact 96 rfl), fy_xki (e.c.fact 450 rfl)⟩
  · exact ⟨fy_xis (e.c.fact 98 rfl), fy_xki (e.c.fact 451 rfl)⟩
  · exact ⟨fy_xis (e.c.fact 100 rfl), fy_xki (e.c.fact 452 rfl)⟩
  · exact ⟨fy_xis (e.c.fact 102 rfl), fy_xki (e.c.fact 453 rfl)⟩
  · exact ⟨fy_xis (e.c.fact 104 rfl), fy_xki (e.c.fact 454 rfl)⟩
  · exact ⟨fy_xis (e.c.fact 106 rfl), fy_xki (e.c.fact 455 rfl)⟩
  · exact ⟨fy_xis (e.c.fact 108 rfl), fy_xki (e.c.fact 456 rfl)⟩
  · exact ⟨fy_xis (e.c.fact 110 rfl), fy_xki (e.c.fact 457 rfl)⟩
  · exact ⟨fy_xis (e.c.fact 112 rfl), fy_xki (e.c.fact 458 rfl)⟩
  · exact ⟨fy_xis (e.c.fact 114 rfl), fy_xki (e.c.fact 459 rfl)⟩
  · exact ⟨fy_xis (e.c.fact 116 rfl), fy_xki (e.c.fact 460 rfl)⟩
  · exact ⟨fy_xis (e.c.fact 118 rfl), fy_xki (e.c.fact 461 rfl)⟩
def iv_Unreadable : List (Str × Bool) := [("InvalidTest", false), ("InvalidChange", false), ("InvalidAddress", false), ("InvalidCommand", false), ("InvalidLine", false), ("InvalidText", false), ("InvalidRoom", false), ("InvalidCheckpoint", false), ("InvalidSkip", false), ("InvalidBlock", false), ("Unreadable", true), ("InvalidRow", false), ("Beyond", false), ("OutOfRange", false), ("NoName", false), ("TooMany", false), ("Nothing", false), ("Finished", false)]
theorem iv_ok_Unreadable (e : En K mg) : ∀ p ∈ iv_Unreadable, ExcC K (ga K p.1) ∧ PySem.W.kitOne K (.ref (ga K p.1)) (vTy K (.c "Unreadable")) = some p.2 := by
  intro p hp
  simp only [iv_Unreadable, List.mem_cons, List.not_mem_nil, or_false] at hp
  rcases hp with rfl | rfl | rfl | rfl | rfl | rfl | rfl | rfl | rfl | rfl | rfl | rfl | rfl | rfl | rfl | rfl | rfl | rfl
  · exact ⟨fy_xis (e.c.fact 84 rfl), fy_xki (e.c.fact 462 rfl)⟩
  · exact ⟨fy_xis (e.c.fact 86 rfl), fy_xki (e.c.fact 463 rfl)⟩
  · exact ⟨fy_xis (e.c.fact 88 rfl), fy_xki (e.c.fact 464 rfl)⟩
  · exact ⟨fy_xis (e.c.fact 90 rfl), fy_xki (e.c.fact 465 rfl)⟩
  · exact ⟨fy_xis (e.c.fact 92 rfl), fy_xki (e.c.fact 466 rfl)⟩
  · exact ⟨fy_xis (e.c.fact 94 rfl), fy_xki (e.c.fact 467 rfl)⟩
  · exact ⟨fy_xis (e.c.fact 96 rfl), fy_xki (e.c.fact 468 rfl)⟩
  · exact ⟨fy_xis (e.c.fact 98 rfl), fy_xki (e.c.fact 469 rfl)⟩
  · exact ⟨fy_xis (e.c.fact 100 rfl), fy_xki (e.c.fact 470 rfl)⟩
  · exact ⟨fy_xis (e.c.fact 102 rfl), fy_xki (e.c.fact 471 rfl)⟩
  · exact ⟨fy_xis (e.c.fact 104 rfl), fy_xki (e.c.fact 472 rfl)⟩
  · exact ⟨fy_xis (e.c.fact 106 rfl), fy_xki (e.c.fact 473 rfl)⟩
  · exact ⟨fy_xis (e.c.fact 108 rfl), fy_xki (e.c.fact 474 rfl)⟩
  · exact ⟨fy_xis (e.c.fact 110 rfl), fy_xki (e.c.fact 475 rfl)⟩
  · exact ⟨fy_xis (e.c.fact 112 rfl), fy_xki (e.c.fact 476 rfl)⟩
  · exact ⟨fy_xis (e.c.fact 114 rfl), fy_xki (e.c.fact 477 rfl)⟩
  · exact ⟨fy_xis (e.c.fact 116 rfl), fy_xki (e.c.fact 478 rfl)⟩
  · exact ⟨fy_xis (e.c.fact 118 rfl), fy_xki (e.c.fact 479 rfl)⟩
def iv_ValueError : List (Str × Bool) := [("InvalidTest", true), ("InvalidChange", true), ("InvalidAddress", true), ("InvalidCommand", true), ("InvalidLine", true), ("InvalidText", true), ("InvalidRoom", true), ("InvalidCheckpoint", true), ("InvalidSkip", true), ("InvalidBlock", true), ("Unreadable", true), ("InvalidRow", true), ("Beyond", true), ("OutOfRange", false), ("NoName", false), ("TooMany", false), ("Nothing", false), ("Finished", false)]
theorem iv_ok_ValueError (e : En K mg) : ∀ p ∈ iv_ValueError, ExcC K (ga K p.1) ∧ PySem.W.kitOne K (.ref (ga K p.1)) (vTy K (.t "ValueError")) = some p.2 := by
  intro p hp
  simp only [iv_ValueError, List.mem_cons, List.not_mem_nil, or_false] at hp
  rcases hp with rfl | rfl | rfl | rfl | rfl | rfl | rfl | rfl | rfl | rfl | rfl | rfl | rfl | rfl | rfl | rfl | rfl | rfl
  · exact ⟨fy_xis (e.c.fact 84 rfl), fy_xki (e.c.fact 480 rfl)⟩
  · exact ⟨fy_xis (e.c.fact 86 rfl), fy_xki (e.c.fact 481 rfl)⟩
  · exact ⟨fy_xis (e.c.fact 88 rfl), fy_xki (e.c.fact 482 rfl)⟩
  · exact ⟨fy_xis (e.c.fact 90 rfl), fy_xki (e.c.fact 483 rfl)⟩
  · exact ⟨fy_xis (e.c.fact 92 rfl), fy_xki (e.c.fact 484 rfl)⟩
  · exact ⟨fy_xis (e.c.fact 94 rfl), fy_xki (e.c.fact 485 rfl)⟩
  · exact ⟨fy_xis (e.c.fact 96 rfl), fy_xki (e.c.fact 486 rfl)⟩
  · exact ⟨fy_xis (e.c.fact 98 rfl), fy_xki (e.c.fact 487 rfl)⟩
  · exact ⟨fy_xis (e.c.fact 100 rfl), fy_xki (e.c.fact 488 rfl)⟩
  · exact ⟨fy_xis (e.c.fact 102 rfl), fy_xki (e.c.fact 489 rfl)⟩
  · exact ⟨fy_xis (e.c.fact 104 rfl), fy_xki (e.c.fact 490 rfl)⟩
  · exact ⟨fy_xis (e.c.fact 106 rfl), fy_xki (e.c.fact 491 rfl)⟩
  · exact ⟨fy_xis (e.c.fact 108 rfl), fy_xki (e.c.fact 492 rfl)⟩
  · exact ⟨fy_xis (e.c.fact 110 rfl), fy_xki (e.c.fact 493 rfl)⟩
  · exact ⟨fy_xis (e.c.fact 112 rfl), fy_xki (e.c.fact 494 rfl)⟩
  · exact ⟨fy_xis (e.c.fact 114 rfl), fy_xki (e.c.fact 495 rfl)⟩
  · exact ⟨fy_xis (e.c.fact 116 rfl), fy_xki (e.c.fact 496 rfl)⟩
  · exact ⟨fy_xis (e.c.fact 118 rfl), fy_xki (e.c.fact 497 rfl)⟩
abbrev N__law_draw : List Str := ["_law_pen_here", "_law_span", "_law_digit", "_law_turn", "_law_cell", "_law_primes", "_law_prime", "_law_drawn"]
theorem sc__law_draw : FnScope N__law_draw ["_law_pen_here", "_law_span"] (defScope s__law_draw) := ⟨rfl, rfl, rfl, by decide +kernel, rfl, by decide +kernel, by decide +kernel⟩
theorem fk__law_draw (e : En K mg) : Fk PW w K mg base 2 (ga K "_law_draw") (Pr K 2 drawD) := by
  obtain ⟨fd, F⟩ := d__law_draw e
  refine ⟨fd, _, F.ok (CX := L2.CX PW w) (k := 1) sc__law_draw Pr.len fun cdv A outer s H vs Q E hr h => ⟨t_draw K, PSs.nox ?_, Lx.draw_pure (draw_pure h)⟩, F.bindsN (fun _ _ _ _ _ _ us hl => match us, hl with | [_, _], _ => rfl), F.kp⟩
  exact (pss_cons (ps_if (pt_cmpR op_gt (pe_dget (hu_of hr) (pv 0) pe_str (fun _ _ => rfl)) pe_int (nomark _)) (pss_cons (ps_set (i := 2) sc__law_draw.nd rfl (by first | exact Or.inl rfl | exact Or.inr rfl) (pe_op op_mod (pe_callTy call_int1 rfl (fr e 2 rfl) boot_int (pa_cons (pe_dget (hu_of hr) (pv 0) pe_str (fun _ _ => rfl)) pa_nil)) (pv 1))) (pss_cons (ps_dput (hu_of hr) (pv 0) pe_str (pe_op op_fdiv (pe_dget (hu_of hr) (pv 0) pe_str (fun _ _ => rfl)) (pv 1)) rfl) (pss_one (ps_ret (pv 2))))) pss_nil)
  (pss_cons (ps_set (i := 3) sc__law_draw.nd rfl (by first | exact Or.inl rfl | exact Or.inr rfl) (pe_dget (hu_of hr) (pv 0) pe_str (fun _ _ => rfl)))
  (pss_cons (ps_dput (hu_of hr) (pv 0) pe_str (pe_op op_add (pv 3) pe_int) rfl)
  (pss_cons (ps_set (i := 4) sc__law_draw.nd rfl (by first | exact Or.inl rfl | exact Or.inr rfl) (pe_op op_add (pe_op op_mul pe_int (pv 3)) pe_int))
  (pss_cons (ps_if (pt_cmpR (op_neU hr.units) (pe_dget (hu_of hr) (pv 0) pe_str (fun _ _ => rfl)) (pe_lst pa_nil) (nomark _)) (pss_one (ps_set (i := 4) sc__law_draw.nd rfl (by first | exact Or.inl rfl | exact Or.inr rfl) (pe_ix ix_seq (pe_dget (hu_of hr) (pv 0) pe_str (fun _ _ => rfl)) (pe_op op_mod (pe_callTy call_int1 rfl (fr e 2 rfl) boot_int (pa_cons (pv 3) pa_nil)) (pe_callB call_len rfl (fr e 1 rfl) boot_len (pa_cons (pe_dget (hu_of hr) (pv 0) pe_str (fun _ _ => rfl)) pa_nil))) (fun _ _ => rfl)))) pss_nil)
  (pss_cons (ps_if (PW.pt (pw_and (pt_cmpR op_lt (pv 3) (pe_callB call_len rfl (fr e 1 rfl) boot_len (pa_cons (pe_dget (hu_of hr) (pv 0) pe_str (fun _ _ => rfl)) pa_nil)) (nomark _)) (pw_and1 (pt_cmpR op_ge (pe_callB call_abs rfl (fr e 0 rfl) boot_abs (pa_cons (pv 4) pa_nil)) (pe_op op_pow pe_int pe_int) (nomark _))))) (pss_cons (ps_dput (hu_of hr) (pv 0) pe_str (pe_op op_fdiv (pe_op op_sub (pe_callB call_abs rfl (fr e 0 rfl) boot_abs (pa_cons (pv 4) pa_nil)) (pe_op op_pow pe_int pe_int)) (pv 1)) rfl) (pss_one (ps_ret (pe_op op_mod (pe_op op_sub (pe_callB call_abs rfl (fr e 0 rfl) boot_abs (pa_cons (pv 4) pa_nil)) (pe_op op_pow pe_int pe_int)) (pv 1))))) pss_nil)
  (pss_cons (ps_set (i := 5) sc__law_draw.nd rfl (by first | exact Or.inl rfl | exact Or.inr rfl) (pe_lst (pa_cons pe_int (pa_cons pe_int (pa_cons pe_int (pa_cons pe_int (pa_cons pe_int pa_nil)))))))
  (pss_cons (ps_set (i := 6) sc__law_draw.nd rfl (by first | exact Or.inl rfl | exact Or.inr rfl) (pe_ix ix_seq (pv 5) (pe_op op_mod (pe_callTy call_int1 rfl (fr e 2 rfl) boot_int (pa_cons (pv 3) pa_nil)) pe_int) (fun _ _ => rfl)))
  (pss_cons (ps_set (i := 7) sc__law_draw.nd rfl (by first | exact Or.inl rfl | exact Or.inr rfl) (pe_op op_mod (pe_callTy call_int1 rfl (fr e 2 rfl) boot_int (pa_cons (pe_op op_add (pe_op op_add (pe_op op_mul (pe_op op_mod (pe_callTy call_int1 rfl (fr e 2 rfl) boot_int (pa_cons (pv 4) pa_nil)) (pv 6)) pe_int) (pe_op op_mul (pv 3) (pe_op op_add (pe_op op_mul pe_int (pv 3)) pe_int))) pe_int) pa_nil)) (pv 6)))
  (pss_cons (ps_set (i := 7) sc__law_draw.nd rfl (by first | exact Or.inl rfl | exact Or.inr rfl) (pe_op op_mod (pe_callTy call_int1 rfl (fr e 2 rfl) boot_int (pa_cons (pe_op op_mul (pv 7) (pe_op op_add (pv 7) pe_int)) pa_nil)) (pe_ix ix_seq (pv 5) (pe_op op_mod (pe_callTy call_int1 rfl (fr e 2 rfl) boot_int (pa_cons (pe_op op_add (pv 3) pe_int) pa_nil)) pe_int) (fun _ _ => rfl))))
  (pss_one (ps_ret (pe_op op_mod (pe_callTy call_int1 rfl (fr e 2 rfl) boot_int (pa_cons (pe_op op_fdiv (pe_op op_mod (pe_callTy call_int1 rfl (fr e 2 rfl) boot_int (pa_cons (pe_op op_add (pe_op op_add (pe_op op_mul (pv 7) (pv 7)) (pe_op op_mul pe_int (pv 7))) (pv 3)) pa_nil)) pe_int) pe_int) pa_nil)) (pv 1))))))))))))))
abbrev g__law_draw : List D → W D := drawD
abbrev N__law_pick : List Str := ["_law_pen_here", "_law_options"]
theorem sc__law_pick : FnScope N__law_pick ["_law_pen_here", "_law_options"] (defScope s__law_pick) := ⟨rfl, rfl, rfl, by decide +kernel, rfl, by decide +kernel, by decide +kernel⟩
@[reducible] def b__law_pick : List Sl → W Out := (dRet (dOp2 ixD (dVar 1) (dCall 2 g__law_draw (dCons (dVar 0) (dCons (dOpn lenD (dCons (dVar 1) dNil)) dNil)))))
def g__law_pick : List D → W D := dBody N__law_pick b__law_pick
theorem fk__law_pick (e : En K mg) : Fk PW w K mg base 10 (ga K "_law_pick") (Pr K 2 g__law_pick) := by
  obtain ⟨fd, F⟩ := d__law_pick e
  exact ⟨fd, _, fn_ly (b := b__law_pick) (k := 9) F sc__law_pick (ls_ret (le_op2 lo_ix le_var (le_call (la_cons le_var (la_cons (le_opn lo_len (la_cons le_var la_nil)) la_nil))))) (fun cdv A outer s H E hr tk => (pss_one (ps_ret (pe_ix ix_seq (pv 1) (pe_fk (fk__law_draw e) (hr.mono (by omega)) (px tk) rfl (gl e 3 rfl) (pa_cons (pv 0) (pa_cons (pe_callB call_len rfl (fr e 1 rfl) boot_len (pa_cons (pv 1) pa_nil)) pa_nil))) (fun _ _ => rfl))))), F.bindsN (fun _ _ _ _ _ _ us hl => match us, hl with | [_, _], _ => rfl), F.kp⟩
abbrev N__law_any_value : List Str := ["_law_pen_here", "_law_some"]
theorem sc__law_any_value : FnScope N__law_any_value ["_law_pen_here"] (defScope s__law_any_value) := ⟨rfl, rfl, rfl, by decide +kernel, rfl, by decide +kernel, by decide +kernel⟩
@[reducible] def b__law_any_value : List Sl → W Out := (dSeq (dAsg (dLst (dCons (dC .non) (dCons (dC (.bl true)) (dCons (dC (.bl false)) (dCons (dC (.int 0)) (dCons (dC (.int 1)) (dCons (dOp1 negD (dC (.int 1))) (dCons (dOp2 powD (dC (.int 10)) (dC (.int 59))) (dCons (dC (.str ("" : Str))) (dCons (dC (.str ("a" : Str))) (dCons (dC (.str ("\t" : Str))) (dCons (dC (.str ("a\n" : Str))) (dCons (dC (.str ("ab" : Str))) (dCons (dTup dNil) (dCons (dTup (dCons (dC (.str ("a" : Str))) dNil)) (dCons (dLst (dCons (dC (.str ("a" : Str))) (dCons (dC (.str ("b" : Str))) dNil))) (dCons (dC (.dct [])) (dCons (dLst (dCons (dC (.int 1)) dNil)) dNil)))))))))))))))))) (dName 1))
  (dSeq (dAsg (dOp2 addD (dVar 1) (dLst (dCons (dTup (dCons (dC (.str ("a" : Str))) (dCons (dC (.int 1)) dNil))) (dCons (dC (.dct [(Sum.inr ("a" : Str), .str ("b" : Str))])) (dCons (dC (.str ("print" : Str))) (dCons (dOp2 mulUD (dC (.str ("a" : Str))) (dC (.int 9))) (dCons (dOp2 mulUD (dC (.str ("a" : Str))) (dC (.int 21))) (dCons (dTup (dCons (dC (.str ("a\tb" : Str))) dNil)) (dCons (dLst (dCons (dLst (dCons (dC (.str ("a" : Str))) dNil)) dNil)) (dCons (dTup (dCons (dC (.int 0)) (dCons (dC (.int 1)) dNil))) (dCons (dC (.str ("aa" : Str))) (dCons (dLst dNil) dNil)))))))))))) (dName 1))
  (dRet (dCall 2 g__law_pick (dCons (dVar 0) (dCons (dOp2 addD (dVar 1) (dLst (dCons (dTup (dCons (dC (.str ("number" : Str))) (dCons (dC (.int 1)) dNil))) dNil))) dNil))))))
def g__law_any_value : List D → W D := dBody N__law_any_value b__law_any_value
theorem fk__law_any_value (e : En K mg) : Fk PW w K mg base 18 (ga K "_law_any_value") (Pr K 1 g__law_any_value) := by
  obtain ⟨fd, F⟩ := d__law_any_value e
  exact ⟨fd, _, fn_ly (b := b__law_any_value) (k := 17) F sc__law_any_value (ls_seq (ls_asg (le_lst (la_cons le_non (la_cons le_bl (la_cons le_bl (la_cons le_int (la_cons le_int (la_cons (le_op1 lo_neg le_int) (la_cons (le_op2 lo_pow le_int le_int) (la_cons le_str (la_cons le_str (la_cons le_str (la_cons le_str (la_cons le_str (la_cons (le_tup la_nil) (la_cons (le_tup (la_cons le_str la_nil)) (la_cons (le_lst (la_cons le_str (la_cons le_str la_nil))) (la_cons le_dct0 (la_cons (le_lst (la_cons le_int la_nil)) la_nil)))))))))))))))))) lg_name)
  (ls_seq (ls_asg (le_op2 lo_add le_var (le_lst (la_cons (le_tup (la_cons le_str (la_cons le_int la_nil))) (la_cons (le_dct1 (k := "a") (v := "b")) (la_cons le_str (la_cons (le_op2 lo_mulU le_str le_int) (la_cons (le_op2 lo_mulU le_str le_int) (la_cons (le_tup (la_cons le_str la_nil)) (la_cons (le_lst (la_cons (le_lst (la_cons le_str la_nil)) la_nil)) (la_cons (le_tup (la_cons le_int (la_cons le_int la_nil))) (la_cons le_str (la_cons (le_lst la_nil) la_nil)))))))))))) lg_name)
  (ls_ret (le_call (la_cons le_var (la_cons (le_op2 lo_add le_var (le_lst (la_cons (le_tup (la_cons le_str (la_cons le_int la_nil))) la_nil))) la_nil)))))) (fun cdv A outer s H E hr tk => (pss_cons (ps_set (i := 1) sc__law_any_value.nd rfl (by first | exact Or.inl rfl | exact Or.inr rfl) (pe_lst (pa_cons pe_non (pa_cons pe_bl (pa_cons pe_bl (pa_cons pe_int (pa_cons pe_int (pa_cons (pe_un un_neg pe_int) (pa_cons (pe_op op_pow pe_int pe_int) (pa_cons pe_str (pa_cons pe_str (pa_cons pe_str (pa_cons pe_str (pa_cons pe_str (pa_cons (pe_tup pa_nil) (pa_cons (pe_tup (pa_cons pe_str pa_nil)) (pa_cons (pe_lst (pa_cons pe_str (pa_cons pe_str pa_nil))) (pa_cons pe_dnewK (pa_cons (pe_lst (pa_cons pe_int pa_nil)) pa_nil)))))))))))))))))))
  (pss_cons (ps_set (i := 1) sc__law_any_value.nd rfl (by first | exact Or.inl rfl | exact Or.inr rfl) (pe_op op_addU (pv 1) (pe_lst (pa_cons (pe_tup (pa_cons pe_str (pa_cons pe_int pa_nil))) (pa_cons (pe_disp (pps_cons pe_str pe_str pps_nil) rfl rfl (by decide) (by decide)) (pa_cons pe_str (pa_cons (pe_op op_mulU pe_str pe_int) (pa_cons (pe_op op_mulU pe_str pe_int) (pa_cons (pe_tup (pa_cons pe_str pa_nil)) (pa_cons (pe_lst (pa_cons (pe_lst (pa_cons pe_str pa_nil)) pa_nil)) (pa_cons (pe_tup (pa_cons pe_int (pa_cons pe_int pa_nil))) (pa_cons pe_str (pa_cons (pe_lst pa_nil) pa_nil)))))))))))))
  (pss_one (ps_ret (pe_fk (fk__law_pick e) (hr.mono (by omega)) (px tk) rfl (gl e 4 rfl) (pa_cons (pv 0) (pa_cons (pe_op op_addU (pv 1) (pe_lst (pa_cons (pe_tup (pa_cons pe_str (pa_cons pe_int pa_nil))) pa_nil))) pa_nil)))))))), F.bindsN (fun _ _ _ _ _ _ us hl => match us, hl with | [_], _ => rfl), F.kp⟩
abbrev N__law_classes : List Str := ["_law_error", "_law_found"]
theorem sc__law_classes : FnScope N__law_classes ["_law_error"] (defScope s__law_classes) := ⟨rfl, rfl, rfl, by decide +kernel, rfl, by decide +kernel, by decide +kernel⟩
@[reducible] def b__law_classes : List Sl → W Out := (dSeq (dNewL dNil 1)
  (dSeq (dExt 1 (dLst (dCons (dOp1 (dIsV iv_InvalidTest) (dVar 0)) (dCons (dOp1 (dIsV iv_InvalidChange) (dVar 0)) dNil))))
  (dSeq (dExt 1 (dLst (dCons (dOp1 (dIsV iv_InvalidAddress) (dVar 0)) (dCons (dOp1 (dIsV iv_InvalidCommand) (dVar 0)) dNil))))
  (dSeq (dExt 1 (dLst (dCons (dOp1 (dIsV iv_InvalidLine) (dVar 0)) (dCons (dOp1 (dIsV iv_InvalidText) (dVar 0)) dNil))))
  (dSeq (dExt 1 (dLst (dCons (dOp1 (dIsV iv_InvalidRoom) (dVar 0)) (dCons (dOp1 (dIsV iv_InvalidCheckpoint) (dVar 0)) dNil))))
  (dSeq (dExt 1 (dLst (dCons (dOp1 (dIsV iv_InvalidSkip) (dVar 0)) (dCons (dOp1 (dIsV iv_InvalidBlock) (dVar 0)) dNil))))
  (dSeq (dExt 1 (dLst (dCons (dOp1 (dIsV iv_Unreadable) (dVar 0)) (dCons (dOp1 (dIsV iv_InvalidRow) (dVar 0)) dNil))))
  (dSeq (dExt 1 (dLst (dCons (dOp1 (dIsV iv_Beyond) (dVar 0)) (dCons (dOp1 (dIsV iv_OutOfRange) (dVar 0)) dNil))))
  (dSeq (dExt 1 (dLst (dCons (dOp1 (dIsV iv_NoName) (dVar 0)) (dCons (dOp1 (dIsV iv_Nothing) (dVar 0)) dNil))))
  (dSeq (dExt 1 (dLst (dCons (dOp1 (dIsV iv_TooMany) (dVar 0)) (dCons (dOp1 (dIsV iv_Finished) (dVar 0)) dNil))))
  (fun δ => (iceD 1 δ).bind (dRet (dVar 1)))))))))))))
def g__law_classes : List D → W D := dBody N__law_classes b__law_classes
theorem fk__law_classes (e : En K mg) : Fk PW w K mg base 2 (ga K "_law_classes") (Pr K 1 g__law_classes) := by
  obtain ⟨fd, F⟩ := d__law_classes e
  exact ⟨fd, _, fn_ly (b := b__law_classes) (k := 1) F sc__law_classes (ls_seq (ls_newL la_nil)
  (ls_seq (ls_ext (le_lst (la_cons (le_isV (cv := .ref (ga K "InvalidTest")) (fun _ h => h) (iv_ok_InvalidTest e) le_var) (la_cons (le_isV (cv := .ref (ga K "InvalidChange")) (fun _ h => h) (iv_ok_InvalidChange e) le_var) la_nil))))
  (ls_seq (ls_ext (le_lst (la_cons (le_isV (cv := .ref (ga K "InvalidAddress")) (fun _ h => h) (iv_ok_InvalidAddress e) le_var) (la_cons (le_isV (cv := .ref (ga K "InvalidCommand")) (fun _ h => h) (iv_ok_InvalidCommand e) le_var) la_nil))))
  (ls_seq (ls_ext (le_lst (la_cons (le_isV (cv := .ref (ga K "InvalidLine")) (fun _ h => h) (iv_ok_InvalidLine e) le_var) (la_cons (le_isV (cv := .ref (ga K "InvalidText")) (fun _ h => h) (iv_ok_InvalidText e) le_var) la_nil))))
  (ls_seq (ls_ext (le_lst (la_cons (le_isV (cv := .ref (ga K "InvalidRoom")) (fun _ h => h) (iv_ok_InvalidRoom e) le_var) (la_cons (le_isV (cv := .ref (ga K "InvalidCheckpoint")) (fun _ h => h) (iv_ok_InvalidCheckpoint e) le_var) la_nil))))
  (ls_seq (ls_ext (le_lst (la_cons (le_isV (cv := .ref (ga K "InvalidSkip")) (fun _ h => h) (iv_ok_InvalidSkip e) le_var) (la_cons (le_isV (cv := .ref (ga K "InvalidBlock")) (fun _ h => h) (iv_ok_InvalidBlock e) le_var) la_nil))))
  (ls_seq (ls_ext (le_lst (la_cons (le_isV (cv := .ref (ga K "Unreadable")) (fun _ h => h) (iv_ok_Unreadable e) le_var) (la_cons (le_isV (cv := .ref (ga K "InvalidRow")) (fun _ h => h) (iv_ok_InvalidRow e) le_var) la_nil))))
  (ls_seq (ls_ext (le_lst (la_cons (le_isV (cv := .ref (ga K "Beyond")) (fun _ h => h) (iv_ok_Beyond e) le_var) (la_cons (le_isV (cv := .ref (ga K "OutOfRange")) (fun _ h => h) (iv_ok_OutOfRange e) le_var) la_nil))))
  (ls_seq (ls_ext (le_lst (la_cons (le_isV (cv := .ref (ga K "NoName")) (fun _ h => h) (iv_ok_NoName e) le_var) (la_cons (le_isV (cv := .ref (ga K "Nothing")) (fun _ h => h) (iv_ok_Nothing e) le_var) la_nil))))
  (ls_seq (ls_ext (le_lst (la_cons (le_isV (cv := .ref (ga K "TooMany")) (fun _ h => h) (iv_ok_TooMany e) le_var) (la_cons (le_isV (cv := .ref (ga K "Finished")) (fun _ h => h) (iv_ok_Finished e) le_var) la_nil))))
  (ls_ice 1 (ls_ret le_var)))))))))))) (fun cdv A outer s H E hr tk => (pss_cons (ps_set (i := 1) sc__law_classes.nd rfl (by first | exact Or.inl rfl | exact Or.inr rfl) (pe_lst pa_nil))
  (pss_cons (ps_expr (pe_bm PySem.F.plainAttrs_list PySem.F.slot_list_extend PySem.F.type_list_extend mt_extend (pv 1) (pa_cons (pe_lst (pa_cons (pe_callB call_isV rfl (fr e 6 rfl) boot_isinstance (pa_cons (pv 0) (pa_cons (pe_glob rfl (gl e 23 rfl) rfl) pa_nil))) (pa_cons (pe_callB call_isV rfl (fr e 6 rfl) boot_isinstance (pa_cons (pv 0) (pa_cons (pe_glob rfl (gl e 22 rfl) rfl) pa_nil))) pa_nil))) pa_nil)))
  (pss_cons (ps_expr (pe_bm PySem.F.plainAttrs_list PySem.F.slot_list_extend PySem.F.type_list_extend mt_extend (pv 1) (pa_cons (pe_lst (pa_cons (pe_callB call_isV rfl (fr e 6 rfl) boot_isinstance (pa_cons (pv 0) (pa_cons (pe_glob rfl (gl e 21 rfl) rfl) pa_nil))) (pa_cons (pe_callB call_isV rfl (fr e 6 rfl) boot_isinstance (pa_cons (pv 0) (pa_cons (pe_glob rfl (gl e 20 rfl) rfl) pa_nil))) pa_nil))) pa_nil)))
  (pss_cons (ps_expr (pe_bm PySem.F.plainAttrs_list PySem.F.slot_list_extend PySem.F.type_list_extend mt_extend (pv 1) (pa_cons (pe_lst (pa_cons (pe_callB call_isV rfl (fr e 6 rfl) boot_isinstance (pa_cons (pv 0) (pa_cons (pe_glob rfl (gl e 19 rfl) rfl) pa_nil))) (pa_cons (pe_callB call_isV rfl (fr e 6 rfl) boot_isinstance (pa_cons (pv 0) (pa_cons (pe_glob rfl (gl e 18 rfl) rfl) pa_nil))) pa_nil))) pa_nil)))
  (pss_cons (ps_expr (pe_bm PySem.F.plainAttrs_list PySem.F.slot_list_extend PySem.F.type_list_extend mt_extend (pv 1) (pa_cons (pe_lst (pa_cons (pe_callB call_isV rfl (fr e 6 rfl) boot_isinstance (pa_cons (pv 0) (pa_cons (pe_glob rfl (gl e 17 rfl) rfl) pa_nil))) (pa_cons (pe_callB call_isV rfl (fr e 6 rfl) boot_isinstance (pa_cons (pv 0) (pa_cons (pe_glob rfl (gl e 16 rfl) rfl) pa_nil))) pa_nil))) pa_nil)))
  (pss_cons (ps_expr (pe_bm PySem.F.plainAttrs_list PySem.F.slot_list_extend PySem.F.type_list_extend mt_extend (pv 1) (pa_cons (pe_lst (pa_cons (pe_callB call_isV rfl (fr e 6 rfl) boot_isinstance (pa_cons (pv 0) (pa_cons (pe_glob rfl (gl e 15 rfl) rfl) pa_nil))) (pa_cons (pe_callB call_isV rfl (fr e 6 rfl) boot_isinstance (pa_cons (pv 0) (pa_cons (pe_glob rfl (gl e 14 rfl) rfl) pa_nil))) pa_nil))) pa_nil)))
  (pss_cons (ps_expr (pe_bm PySem.F.plainAttrs_list PySem.F.slot_list_extend PySem.F.type_list_extend mt_extend (pv 1) (pa_cons (pe_lst (pa_cons (pe_callB call_isV rfl (fr e 6 rfl) boot_isinstance (pa_cons (pv 0) (pa_cons (pe_glob rfl (gl e 13 rfl) rfl) pa_nil))) (pa_cons (pe_callB call_isV rfl (fr e 6 rfl) boot_isinstance (pa_cons (pv 0) (pa_cons (pe_glob rfl (gl e 12 rfl) rfl) pa_nil))) pa_nil))) pa_nil)))
  (pss_cons (ps_expr (pe_bm PySem.F.plainAttrs_list PySem.F.slot_list_extend PySem.F.type_list_extend mt_extend (pv 1) (pa_cons (pe_lst (pa_cons (pe_callB call_isV rfl (fr e 6 rfl) boot_isinstance (pa_cons (pv 0) (pa_cons (pe_glob rfl (gl e 11 rfl) rfl) pa_nil))) (pa_cons (pe_callB call_isV rfl (fr e 6 rfl) boot_isinstance (pa_cons (pv 0) (pa_cons (pe_glob rfl (gl e 10 rfl) rfl) pa_nil))) pa_nil))) pa_nil)))
  (pss_cons (ps_expr (pe_bm PySem.F.plainAttrs_list PySem.F.slot_list_extend PySem.F.type_list_extend mt_extend (pv 1) (pa_cons (pe_lst (pa_cons (pe_callB call_isV rfl (fr e 6 rfl) boot_isinstance (pa_cons (pv 0) (pa_cons (pe_glob rfl (gl e 9 rfl) rfl) pa_nil))) (pa_cons (pe_callB call_isV rfl (fr e 6 rfl) boot_isinstance (pa_cons (pv 0) (pa_cons (pe_glob rfl (gl e 8 rfl) rfl) pa_nil))) pa_nil))) pa_nil)))
  (pss_cons (ps_expr (pe_bm PySem.F.plainAttrs_list PySem.F.slot_list_extend PySem.F.type_list_extend mt_extend (pv 1) (pa_cons (pe_lst (pa_cons (pe_callB call_isV rfl (fr e 6 rfl) boot_isinstance (pa_cons (pv 0) (pa_cons (pe_glob rfl (gl e 7 rfl) rfl) pa_nil))) (pa_cons (pe_callB call_isV rfl (fr e 6 rfl) boot_isinstance (pa_cons (pv 0) (pa_cons (pe_glob rfl (gl e 5 rfl) rfl) pa_nil))) pa_nil))) pa_nil)))
  (pss_one (ps_ret (pv 1)))))))))))))), F.bindsN (fun _ _ _ _ _ _ us hl => match us, hl with | [_], _ => rfl), F.kp⟩
abbrev N__law_pen : List Str := ["_law_script"]
theorem sc__law_pen : FnScope N__law_pen ["_law_script"] (defScope s__law_pen) := ⟨rfl, rfl, rfl, by decide +kernel, rfl, by decide +kernel, by decide +kernel⟩
theorem fk__law_pen (e : En K mg) : Fk PW w K mg base 2 (ga K "_law_pen") (spPen K) := by
  obtain ⟨fd, F⟩ := d__law_pen e
  refine ⟨fd, _, F.ok (CX := L2.CX PW w) (k := 1) sc__law_pen spPen.len fun cdv A outer s H vs Q E hr h => ⟨t_pen K, PSs.nox ?_, pen_pure h⟩, F.bindsN (fun _ _ _ _ _ _ us hl => match us, hl with | [_], _ => rfl), F.kp⟩
  exact pss_one (ps_ret (pe_disp (pps_cons pe_str (pe_callTy call_list_of rfl (fr e 24 rfl) boot_list (pa_cons (pe_slice sl_U (pv 0) po_none (po_some pe_int)) pa_nil)) (pps_cons pe_str pe_int (pps_cons pe_str pe_int pps_nil))) rfl rfl (by decide) (by decide)))
abbrev N_Beyond_init : List Str := ["self", "bound"]
theorem sc_Beyond_init : SupScope N_Beyond_init ["self", "bound"] (defScope s_Beyond_init) := ⟨rfl, rfl, rfl, by decide +kernel, rfl, by decide +kernel, by decide +kernel, by decide +kernel, rfl, rfl⟩
theorem fe_Beyond (e : En K mg) : FkE PW w K mg base 2 1 "Beyond" (sp1 (ga K "Beyond") "self" "bound") ["bound"] [0] := by
  obtain ⟨fd, F⟩ := d_Beyond_init e
  obtain ⟨xb, h1, h2⟩ := fy_ob baseVE (e.c.fact 26 rfl)
  exact ⟨_, _, _, _, _, fd, _, xb.T, h1, h2, fn_err1 (k := 1) F sc_Beyond_init rfl rfl xb (fy_xfl (e.c.fact 27 rfl)).2 rfl rfl rfl (by decide +kernel) rfl rfl rfl rfl (fun _ => rfl) (fun _ => rfl) (fun _ => rfl) (fun _ => rfl) (fun _ => ⟨_, rfl⟩), Lx.SupD.bindsN F (fun _ _ _ _ _ _ _ us hl => match us, hl with | [_, _], _ => rfl), rfl, SupD.kb F (fun _ _ _ _ _ _ _ _ ws hl => match ws, hl with | [_], _ => rfl)⟩
abbrev N_InvalidAddress_init : List Str := ["self", "argument"]
theorem sc_InvalidAddress_init : SupScope N_InvalidAddress_init ["self", "argument"] (defScope s_InvalidAddress_init) := ⟨rfl, rfl, rfl, by decide +kernel, rfl, by decide +kernel, by decide +kernel, by decide +kernel, rfl, rfl⟩
theorem fe_InvalidAddress (e : En K mg) : FkE PW w K mg base 2 1 "InvalidAddress" (sp1 (ga K "InvalidAddress") "self" "argument") ["argument"] [0] := by
  obtain ⟨fd, F⟩ := d_InvalidAddress_init e
  obtain ⟨xb, h1, h2⟩ := fy_ob baseVE (e.c.fact 28 rfl)
  exact ⟨_, _, _, _, _, fd, _, xb.T, h1, h2, fn_err1 (k := 1) F sc_InvalidAddress_init rfl rfl xb (fy_xfl (e.c.fact 29 rfl)).2 rfl rfl rfl (by decide +kernel) rfl rfl rfl rfl (fun _ => rfl) (fun _ => rfl) (fun _ => rfl) (fun _ => rfl) (fun _ => ⟨_, rfl⟩), Lx.SupD.bindsN F (fun _ _ _ _ _ _ _ us hl => match us, hl with | [_, _], _ => rfl), rfl, SupD.kb F (fun _ _ _ _ _ _ _ _ ws hl => match ws, hl with | [_], _ => rfl)⟩
abbrev N_InvalidBlock_init : List Str := ["self", "index"]
theorem sc_InvalidBlock_init : SupScope N_InvalidBlock_init ["self", "index"] (defScope s_InvalidBlock_init) := ⟨rfl, rfl, rfl, by decide +kernel, rfl, by decide +kernel, by decide +kernel, by decide +kernel, rfl, rfl⟩
theorem fe_InvalidBlock (e : En K mg) : FkE PW w K mg base 2 1 "InvalidBlock" (sp1 (ga K "InvalidBlock") "self" "index") ["index"] [0] := by
  obtain ⟨fd, F⟩ := d_InvalidBlock_init e
  obtain ⟨xb, h1, h2⟩ := fy_ob baseVE (e.c.fact 30 rfl)
  exact ⟨_, _, _, _, _, fd, _, xb.T, h1, h2, fn_err1 (k := 1) F sc_InvalidBlock_init rfl rfl xb (fy_xfl (e.c.fact 31 rfl)).2 rfl rfl rfl (by decide +kernel) rfl rfl rfl rfl (fun _ => rfl) (fun _ => rfl) (fun _ => rfl) (fun _ => rfl) (fun _ => ⟨_, rfl⟩), Lx.SupD.bindsN F (fun _ _ _ _ _ _ _ us hl => match us, hl with | [_, _], _ => rfl), rfl, SupD.kb F (fun _ _ _ _ _ _ _ _ ws hl => match ws, hl with | [_], _ => rfl)⟩
abbrev N_InvalidChange_init : List Str := ["self", "argument"]
theorem sc_InvalidChange_init : SupScope N_InvalidChange_init ["self", "argument"] (defScope s_InvalidChange_init) := ⟨rfl, rfl, rfl, by decide +kernel, rfl, by decide +kernel, by decide +kernel, by decide +kernel, rfl, rfl⟩
theorem fe_InvalidChange (e : En K mg) : FkE PW w K mg base 2 1 "InvalidChange" (sp1 (ga K "InvalidChange") "self" "argument") ["argument"] [0] := by
  obtain ⟨fd, F⟩ := d_InvalidChange_init e
  obtain ⟨xb, h1, h2⟩ := fy_ob baseVE (e.c.fact 32 rfl)
  exact ⟨_, _, _, _, _, fd, _, xb.T, h1, h2, fn_err1 (k := 1) F sc_InvalidChange_init rfl rfl xb (fy_xfl (e.c.fact 33 rfl)).2 rfl rfl rfl (by decide +kernel) rfl rfl rfl rfl (fun _ => rfl) (fun _ => rfl) (fun _ => rfl) (fun _ => rfl) (fun _ => ⟨_, rfl⟩), Lx.SupD.bindsN F (fun _ _ _ _ _ _ _ us hl => match us, hl with | [_, _], _ => rfl), rfl, SupD.kb F (fun _ _ _ _ _ _ _ _ ws hl => match ws, hl with | [_], _ => rfl)⟩
abbrev N_InvalidCheckpoint_init : List Str := ["self", "value"]
theorem sc_InvalidCheckpoint_init : SupScope N_InvalidCheckpoint_init ["self", "value"] (defScope s_InvalidCheckpoint_init) := ⟨rfl, rfl, rfl, by decide +kernel, rfl, by decide +kernel, by decide +kernel, by decide +kernel, rfl, rfl⟩
theorem fe_InvalidCheckpoint (e : En K mg) : FkE PW w K mg base 2 1 "InvalidCheckpoint" (sp1 (ga K "InvalidCheckpoint") "self" "value") ["value"] [0] := by
  obtain ⟨fd, F⟩ := d_InvalidCheckpoint_init e
  obtain ⟨xb, h1, h2⟩ := fy_ob baseVE (e.c.fact 34 rfl)
  exact ⟨_, _, _, _, _, fd, _, xb.T, h1, h2, fn_err1 (k := 1) F sc_InvalidCheckpoint_init rfl rfl xb (fy_xfl (e.c.fact 35 rfl)).2 rfl rfl rfl (by decide +kernel) rfl rfl rfl rfl (fun _ => rfl) (fun _ => rfl) (fun _ => rfl) (fun _ => rfl) (fun _ => ⟨_, rfl⟩), Lx.SupD.bindsN F (fun _ _ _ _ _ _ _ us hl => match us, hl with | [_, _], _ => rfl), rfl, SupD.kb F (fun _ _ _ _ _ _ _ _ ws hl => match ws, hl with | [_], _ => rfl)⟩
abbrev N_InvalidCommand_init : List Str := ["self", "argument"]
theorem sc_InvalidCommand_init : SupScope N_InvalidCommand_init ["self", "argument"] (defScope s_InvalidCommand_init) := ⟨rfl, rfl, rfl, by decide +kernel, rfl, by decide +kernel, by decide +kernel, by decide +kernel, rfl, rfl⟩
theorem fe_InvalidCommand (e : En K mg) : FkE PW w K mg base 2 1 "InvalidCommand" (sp1 (ga K "InvalidCommand") "self" "argument") ["argument"] [0] := by
  obtain ⟨fd, F⟩ := d_InvalidCommand_init e
  obtain ⟨xb, h1, h2⟩ := fy_ob baseVE (e.c.fact 36 rfl)
  exact ⟨_, _, _, _, _, fd, _, xb.T, h1, h2, fn_err1 (k := 1) F sc_InvalidCommand_init rfl rfl xb (fy_xfl (e.c.fact 37 rfl)).2 rfl rfl rfl (by decide +kernel) rfl rfl rfl rfl (fun _ => rfl) (fun _ => rfl) (fun _ => rfl) (fun _ => rfl) (fun _ => ⟨_, rfl⟩), Lx.SupD.bindsN F (fun _ _ _ _ _ _ _ us hl => match us, hl with | [_, _], _ => rfl), rfl, SupD.kb F (fun _ _ _ _ _ _ _ _ ws hl => match ws, hl with | [_], _ => rfl)⟩
abbrev N_InvalidLine_init : List Str := ["self", "value"]
theorem sc_InvalidLine_init : SupScope N_InvalidLine_init ["self", "value"] (defScope s_InvalidLine_init) := ⟨rfl, rfl, rfl, by decide +kernel, rfl, by decide +kernel, by decide +kernel, by decide +kernel, rfl, rfl⟩
theorem fe_InvalidLine (e : En K mg) : FkE PW w K mg base 2 1 "InvalidLine" (sp1 (ga K "InvalidLine") "self" "value") ["value"] [0] := by
  obtain ⟨fd, F⟩ := d_InvalidLine_init e
  obtain ⟨xb, h1, h2⟩ := fy_ob baseVE (e.c.fact 38 rfl)
  exact ⟨_, _, _, _, _, fd, _, xb.T, h1, h2, fn_err1 (k := 1) F sc_InvalidLine_init rfl rfl xb (fy_xfl (e.c.fact 39 rfl)).2 rfl rfl rfl (by decide +kernel) rfl rfl rfl rfl (fun _ => rfl) (fun _ => rfl) (fun _ => rfl) (fun _ => rfl) (fun _ => ⟨_, rfl⟩), Lx.SupD.bindsN F (fun _ _ _ _ _ _ _ us hl => match us, hl with | [_, _], _ => rfl), rfl, SupD.kb F (fun _ _ _ _ _ _ _ _ ws hl => match ws, hl with | [_], _ => rfl)⟩
abbrev N_InvalidRoom_init : List Str := ["self", "value"]
theorem sc_InvalidRoom_init : SupScope N_InvalidRoom_init ["self", "value"] (defScope s_InvalidRoom_init) := ⟨rfl, rfl, rfl, by decide +kernel, rfl, by decide +kernel, by decide +kernel, by decide +kernel, rfl, rfl⟩
theorem fe_InvalidRoom (e : En K mg) : FkE PW w K mg base 2 1 "InvalidRoom" (sp1 (ga K "InvalidRoom") "self" "value") ["value"] [0] := by
  obtain ⟨fd, F⟩ := d_InvalidRoom_init e
  obtain ⟨xb, h1, h2⟩ := fy_ob baseVE (e.c.fact 40 rfl)
  exact ⟨_, _, _, _, _, fd, _, xb.T, h1, h2, fn_err1 (k := 1) F sc_InvalidRoom_init rfl rfl xb (fy_xfl (e.c.fact 41 rfl)).2 rfl rfl rfl (by decide +kernel) rfl rfl rfl rfl (fun _ => rfl) (fun _ => rfl) (fun _ => rfl) (fun _ => rfl) (fun _ => ⟨_, rfl⟩), Lx.SupD.bindsN F (fun _ _ _ _ _ _ _ us hl => match us, hl with | [_, _], _ => rfl), rfl, SupD.kb F (fun _ _ _ _ _ _ _ _ ws hl => match ws, hl with | [_], _ => rfl)⟩
abbrev N_InvalidRow_init : List Str := ["self", "row"]
theorem sc_InvalidRow_init : SupScope N_InvalidRow_init ["self", "row"] (defScope s_InvalidRow_init) := ⟨rfl, rfl, rfl, by decide +kernel, rfl, by decide +kernel, by decide +kernel, by decide +kernel, rfl, rfl⟩
theorem fe_InvalidRow (e : En K mg) : FkE PW w K mg base 2 1 "InvalidRow" (sp1 (ga K "InvalidRow") "self" "row") ["row"] [0] := by
  obtain ⟨fd, F⟩ := d_InvalidRow_init e
  obtain ⟨xb, h1, h2⟩ := fy_ob baseVE (e.c.fact 42 rfl)
  exact ⟨_, _, _, _, _, fd, _, xb.T, h1, h2, fn_err1 (k := 1) F sc_InvalidRow_init rfl rfl xb (fy_xfl (e.c.fact 43 rfl)).2 rfl rfl rfl (by decide +kernel) rfl rfl rfl rfl (fun _ => rfl) (fun _ => rfl) (fun _ => rfl) (fun _ => rfl) (fun _ => ⟨_, rfl⟩), Lx.SupD.bindsN F (fun _ _ _ _ _ _ _ us hl => match us, hl with | [_, _], _ => rfl), rfl, SupD.kb F (fun _ _ _ _ _ _ _ _ ws hl => match ws, hl with | [_], _ => rfl)⟩
abbrev N_InvalidSkip_init : List Str := ["self", "index"]
theorem sc_InvalidSkip_init : SupScope N_InvalidSkip_init ["self", "index"] (defScope s_InvalidSkip_init) := ⟨rfl, rfl, rfl, by decide +kernel, rfl, by decide +kernel, by decide +kernel, by decide +kernel, rfl, rfl⟩
theorem fe_InvalidSkip (e : En K mg) : FkE PW w K mg base 2 1 "InvalidSkip" (sp1 (ga K "InvalidSkip") "self" "index") ["index"] [0] := by
  obtain ⟨fd, F⟩ := d_InvalidSkip_init e
  obtain ⟨xb, h1, h2⟩ := fy_ob baseVE (e.c.fact 44 rfl)
  exact ⟨_, _, _, _, _, fd, _, xb.T, h1, h2, fn_err1 (k := 1) F sc_InvalidSkip_init rfl rfl xb (fy_xfl (e.c.fact 45 rfl)).2 rfl rfl rfl (by decide +kernel) rfl rfl rfl rfl (fun _ => rfl) (fun _ => rfl) (fun _ => rfl) (fun _ => rfl) (fun _ => ⟨_, rfl⟩), Lx.SupD.bindsN F (fun _ _ _ _ _ _ _ us hl => match us, hl with | [_, _], _ => rfl), rfl, SupD.kb F (fun _ _ _ _ _ _ _ _ ws hl => match ws, hl with | [_], _ => rfl)⟩
abbrev N_InvalidTest_init : List Str := ["self", "argument"]
theorem sc_InvalidTest_init : SupScope N_InvalidTest_init ["self", "argument"] (defScope s_InvalidTest_init) := ⟨rfl, rfl, rfl, by decide +kernel, rfl, by decide +kernel, by decide +kernel, by decide +kernel, rfl, rfl⟩
theorem fe_InvalidTest (e : En K mg) : FkE PW w K mg base 2 1 "InvalidTest" (sp1 (ga K "InvalidTest") "self" "argument") ["argument"] [0] := by
  obtain ⟨fd, F⟩ := d_InvalidTest_init e
  obtain ⟨xb, h1, h2⟩ := fy_ob baseVE (e.c.fact 46 rfl)
  exact ⟨_, _, _, _, _, fd, _, xb.T, h1, h2, fn_err1 (k := 1) F sc_InvalidTest_init rfl rfl xb (fy_xfl (e.c.fact 47 rfl)).2 rfl rfl rfl (by decide +kernel) rfl rfl rfl rfl (fun _ => rfl) (fun _ => rfl) (fun _ => rfl) (fun _ => rfl) (fun _ => ⟨_, rfl⟩), Lx.SupD.bindsN F (fun _ _ _ _ _ _ _ us hl => match us, hl with | [_, _], _ => rfl), rfl, SupD.kb F (fun _ _ _ _ _ _ _ _ ws hl => match ws, hl with | [_], _ => rfl)⟩
abbrev N_InvalidText_init : List Str := ["self", "value"]
theorem sc_InvalidText_init : SupScope N_InvalidText_init ["self", "value"] (defScope s_InvalidText_init) := ⟨rfl, rfl, rfl, by decide +kernel, rfl, by decide +kernel, by decide +kernel, by decide +kernel, rfl, rfl⟩
theorem fe_InvalidText (e : En K mg) : FkE PW w K mg base 2 1 "InvalidText" (sp1 (ga K "InvalidText") "self" "value") ["value"] [0] := by
  obtain ⟨fd, F⟩ := d_InvalidText_init e
  obtain ⟨xb, h1, h2⟩ := fy_ob baseVE (e.c.fact 48 rfl)
  exact ⟨_, _, _, _, _, fd, _, xb.T, h1, h2, fn_err1 (k := 1) F sc_InvalidText_init rfl rfl xb (fy_xfl (e.c.fact 49 rfl)).2 rfl rfl rfl (by decide +kernel) rfl rfl rfl rfl (fun _ => rfl) (fun _ => rfl) (fun _ => rfl) (fun _ => rfl) (fun _ => ⟨_, rfl⟩), Lx.SupD.bindsN F (fun _ _ _ _ _ _ _ us hl => match us, hl with | [_, _], _ => rfl), rfl, SupD.kb F (fun _ _ _ _ _ _ _ _ ws hl => match ws, hl with | [_], _ => rfl)⟩
abbrev N_NoName_init : List Str := ["self", "name"]
theorem sc_NoName_init : SupScope N_NoName_init ["self", "name"] (defScope s_NoName_init) := ⟨rfl, rfl, rfl, by decide +kernel, rfl, by decide +kernel, by decide +kernel, by decide +kernel, rfl, rfl⟩
theorem fe_NoName (e : En K mg) : FkE PW w K mg base 2 1 "NoName" (sp1 (ga K "NoName") "self" "name") ["name"] [0] := by
  obtain ⟨fd, F⟩ := d_NoName_init e
  obtain ⟨xb, h1, h2⟩ := fy_ob baseLE (e.c.fact 50 rfl)
  exact ⟨_, _, _, _, _, fd, _, xb.T, h1, h2, fn_err1 (k := 1) F sc_NoName_init rfl rfl xb (fy_xfl (e.c.fact 51 rfl)).2 rfl rfl rfl (by decide +kernel) rfl rfl rfl rfl (fun _ => rfl) (fun _ => rfl) (fun _ => rfl) (fun _ => rfl) (fun _ => ⟨_, rfl⟩), Lx.SupD.bindsN F (fun _ _ _ _ _ _ _ us hl => match us, hl with | [_, _], _ => rfl), rfl, SupD.kb F (fun _ _ _ _ _ _ _ _ ws hl => match ws, hl with | [_], _ => rfl)⟩
abbrev N_OutOfRange_init : List Str := ["self", "value"]
theorem sc_OutOfRange_init : SupScope N_OutOfRange_init ["self", "value"] (defScope s_OutOfRange_init) := ⟨rfl, rfl, rfl, by decide +kernel, rfl, by decide +kernel, by decide +kernel, by decide +kernel, rfl, rfl⟩
theorem fe_OutOfRange (e : En K mg) : FkE PW w K mg base 2 1 "OutOfRange" (sp1 (ga K "OutOfRange") "self" "value") ["value"] [0] := by
  obtain ⟨fd, F⟩ := d_OutOfRange_init e
  obtain ⟨xb, h1, h2⟩ := fy_ob baseLE (e.c.fact 52 rfl)
  exact ⟨_, _, _, _, _, fd, _, xb.T, h1, h2, fn_err1 (k := 1) F sc_OutOfRange_init rfl rfl xb (fy_xfl (e.c.fact 53 rfl)).2 rfl rfl rfl (by decide +kernel) rfl rfl rfl rfl (fun _ => rfl) (fun _ => rfl) (fun _ => rfl) (fun _ => rfl) (fun _ => ⟨_, rfl⟩), Lx.SupD.bindsN F (fun _ _ _ _ _ _ _ us hl => match us, hl with | [_, _], _ => rfl), rfl, SupD.kb F (fun _ _ _ _ _ _ _ _ ws hl => match ws, hl with | [_], _ => rfl)⟩
abbrev N_TooMany_init : List Str := ["self", "limit"]
theorem sc_TooMany_init : SupScope N_TooMany_init ["self", "limit"] (defScope s_TooMany_init) := ⟨rfl, rfl, rfl, by decide +kernel, rfl, by decide +kernel, by decide +kernel, by decide +kernel, rfl, rfl⟩
theorem fe_TooMany (e : En K mg) : FkE PW w K mg base 2 1 "TooMany" (sp1 (ga K "TooMany") "self" "limit") ["limit"] [0] := by
  obtain ⟨fd, F⟩ := d_TooMany_init e
  obtain ⟨xb, h1, h2⟩ := fy_ob baseOE (e.c.fact 54 rfl)
  exact ⟨_, _, _, _, _, fd, _, xb.T, h1, h2, fn_err1 (k := 1) F sc_TooMany_init rfl rfl xb (fy_xfl (e.c.fact 55 rfl)).2 rfl rfl rfl (by decide +kernel) rfl rfl rfl rfl (fun _ => rfl) (fun _ => rfl) (fun _ => rfl) (fun _ => rfl) (fun _ => ⟨_, rfl⟩), Lx.SupD.bindsN F (fun _ _ _ _ _ _ _ us hl => match us, hl with | [_, _], _ => rfl), rfl, SupD.kb F (fun _ _ _ _ _ _ _ _ ws hl => match ws, hl with | [_], _ => rfl)⟩
abbrev N_Unreadable_init : List Str := ["self", "index", "place"]
theorem sc_Unreadable_init : SupScope N_Unreadable_init ["self", "index", "place"] (defScope s_Unreadable_init) := ⟨rfl, rfl, rfl, by decide +kernel, rfl, by decide +kernel, by decide +kernel, by decide +kernel, rfl, rfl⟩
theorem fe_Unreadable (e : En K mg) : FkE PW w K mg base 2 2 "Unreadable" (sp2 (ga K "Unreadable") "self" "index" "place") ["place", "index"] [1, 0] := by
  obtain ⟨fd, F⟩ := d_Unreadable_init e
  obtain ⟨xb, h1, h2⟩ := fy_ob baseVE (e.c.fact 56 rfl)
  exact ⟨_, _, _, _, _, fd, _, xb.T, h1, h2, fn_err2 (k := 1) F sc_Unreadable_init rfl rfl xb (fy_xfl (e.c.fact 57 rfl)).2 (fy_xfl (e.c.fact 58 rfl)).2 rfl rfl rfl rfl (by decide +kernel) rfl rfl rfl rfl rfl rfl (fun _ => rfl) (fun _ => rfl) (fun _ => rfl) (fun _ => rfl) (fun _ => rfl) (fun _ => ⟨_, rfl⟩), Lx.SupD.bindsN F (fun _ _ _ _ _ _ _ us hl => match us, hl with | [_, _, _], _ => rfl), rfl, SupD.kb F (fun _ _ _ _ _ _ _ _ ws hl => match ws, hl with | [_, _], _ => rfl)⟩
abbrev N__law_some_errors : List Str := ["_law_thing", "_law_found", "_law_error"]
theorem sc__law_some_errors : FnScope N__law_some_errors ["_law_thing"] (defScope s__law_some_errors) := ⟨rfl, rfl, rfl, by decide +kernel, rfl, by decide +kernel, by decide +kernel⟩
@[reducible] def b__law_some_errors : List Sl → W Out := (dSeq (dNewL dNil 1)
  (dSeq (dApp 1 (dTup (dCons (dErr "InvalidTest" ["argument"] (dCons (dVar 0) dNil)) (dCons (dErrF efl "argument" (dErr "InvalidTest" ["argument"] (dCons (dVar 0) dNil))) (dCons (dErrF efl "argument" (dErr "InvalidTest" ["argument"] (dCons (dVar 0) dNil))) (dCons (dC (.str ("value" : Str))) dNil))))))
  (dSeq (dApp 1 (dTup (dCons (dErr "InvalidChange" ["argument"] (dCons (dVar 0) dNil)) (dCons (dErrF efl "argument" (dErr "InvalidChange" ["argument"] (dCons (dVar 0) dNil))) (dCons (dErrF efl "argument" (dErr "InvalidChange" ["argument"] (dCons (dVar 0) dNil))) (dCons (dC (.str ("value" : Str))) dNil))))))
  (dSeq (dAsg (dErr "InvalidAddress" ["argument"] (dCons (dVar 0) dNil)) (dName 2))
  (dSeq (dApp 1 (dTup (dCons (dErr "InvalidAddress" ["argument"] (dCons (dVar 0) dNil)) (dCons (dErrF efl "argument" (dVar 2)) (dCons (dErrF efl "argument" (dErr "InvalidAddress" ["argument"] (dCons (dVar 0) dNil))) (dCons (dC (.str ("value" : Str))) dNil))))))
  (dSeq (dAsg (dErr "InvalidCommand" ["argument"] (dCons (dVar 0) dNil)) (dName 2))
  (dSeq (dApp 1 (dTup (dCons (dErr "InvalidCommand" ["argument"] (dCons (dVar 0) dNil)) (dCons (dErrF efl "argument" (dVar 2)) (dCons (dErrF efl "argument" (dErr "InvalidCommand" ["argument"] (dCons (dVar 0) dNil))) (dCons (dC (.str ("value" : Str))) dNil))))))
  (dSeq (dApp 1 (dTup (dCons (dErr "InvalidLine" ["value"] (dCons (dVar 0) dNil)) (dCons (dErrF efl "value" (dErr "InvalidLine" ["value"] (dCons (dVar 0) dNil))) (dCons (dErrF efl "value" (dErr "InvalidLine" ["value"] (dCons (dVar 0) dNil))) (dCons (dC (.str ("value" : Str))) dNil))))))
  (dSeq (dApp 1 (dTup (dCons (dErr "InvalidText" ["value"] (dCons (dVar 0) dNil)) (dCons (dErrF efl "value" (dErr "InvalidText" ["value"] (dCons (dVar 0) dNil))) (dCons (dErrF efl "value" (dErr "InvalidText" ["value"] (dCons (dVar 0) dNil))) (dCons (dC (.str ("value" : Str))) dNil))))))
  (dSeq (dApp 1 (dTup (dCons (dErr "InvalidRoom" ["value"] (dCons (dVar 0) dNil)) (dCons (dErrF efl "value" (dErr "InvalidRoom" ["value"] (dCons (dVar 0) dNil))) (dCons (dErrF efl "value" (dErr "InvalidRoom" ["value"] (dCons (dVar 0) dNil))) (dCons (dC (.str ("value" : Str))) dNil))))))
  (dSeq (dAsg (dErr "InvalidCheckpoint" ["value"] (dCons (dVar 0) dNil)) (dName 2))
  (dSeq (dApp 1 (dTup (dCons (dErr "InvalidCheckpoint" ["value"] (dCons (dVar 0) dNil)) (dCons (dErrF efl "value" (dVar 2)) (dCons (dErrF efl "value" (dErr "InvalidCheckpoint" ["value"] (dCons (dVar 0) dNil))) (dCons (dC (.str ("value" : Str))) dNil))))))
  (dSeq (dApp 1 (dTup (dCons (dErr "InvalidSkip" ["index"] (dCons (dVar 0) dNil)) (dCons (dErrF efl "index" (dErr "InvalidSkip" ["index"] (dCons (dVar 0) dNil))) (dCons (dErrF efl "index" (dErr "InvalidSkip" ["index"] (dCons (dVar 0) dNil))) (dCons (dC (.str ("value" : Str))) dNil))))))
  (dSeq (dApp 1 (dTup (dCons (dErr "InvalidBlock" ["index"] (dCons (dVar 0) dNil)) (dCons (dErrF efl "index" (dErr "InvalidBlock" ["index"] (dCons (dVar 0) dNil))) (dCons (dErrF efl "index" (dErr "InvalidBlock" ["index"] (dCons (dVar 0) dNil))) (dCons (dC (.str ("value" : Str))) dNil))))))
  (dSeq (dAsg (dErrR "Unreadable" ["place", "index"] (dCons (dVar 0) (dCons (dC (.int 0)) dNil))) (dName 2))
  (dSeq (dApp 1 (dTup (dCons (dErr "Unreadable" ["index", "place"] (dCons (dC (.int 0)) (dCons (dVar 0) dNil))) (dCons (dErrF efl "place" (dVar 2)) (dCons (dErrF efl "index" (dErr "Unreadable" ["index", "place"] (dCons (dVar 0) (dCons (dC (.int 0)) dNil)))) (dCons (dC (.str ("value" : Str))) dNil))))))
  (dSeq (dApp 1 (dTup (dCons (dErr "InvalidRow" ["row"] (dCons (dVar 0) dNil)) (dCons (dErrF efl "row" (dErr "InvalidRow" ["row"] (dCons (dVar 0) dNil))) (dCons (dErrF efl "row" (dErr "InvalidRow" ["row"] (dCons (dVar 0) dNil))) (dCons (dC (.str ("value" : Str))) dNil))))))
  (dSeq (dApp 1 (dTup (dCons (dErr "Beyond" ["bound"] (dCons (dVar 0) dNil)) (dCons (dErrF efl "bound" (dErr "Beyond" ["bound"] (dCons (dVar 0) dNil))) (dCons (dErrF efl "bound" (dErr "Beyond" ["bound"] (dCons (dVar 0) dNil))) (dCons (dC (.str ("value" : Str))) dNil))))))
  (dSeq (dApp 1 (dTup (dCons (dErr "OutOfRange" ["value"] (dCons (dVar 0) dNil)) (dCons (dErrF efl "value" (dErr "OutOfRange" ["value"] (dCons (dVar 0) dNil))) (dCons (dErrF efl "value" (dErr "OutOfRange" ["value"] (dCons (dVar 0) dNil))) (dCons (dC (.str ("lookup" : Str))) dNil))))))
  (dSeq (dApp 1 (dTup (dCons (dErr "NoName" ["name"] (dCons (dVar 0) dNil)) (dCons (dErrF efl "name" (dErr "NoName" ["name"] (dCons (dVar 0) dNil))) (dCons (dErrF efl "name" (dErr "NoName" ["name"] (dCons (dVar 0) dNil))) (dCons (dC (.str ("lookup" : Str))) dNil))))))
  (dSeq (dApp 1 (dTup (dCons (dErr "TooMany" ["limit"] (dCons (dVar 0) dNil)) (dCons (dErrF efl "limit" (dErr "TooMany" ["limit"] (dCons (dVar 0) dNil))) (dCons (dErrF efl "limit" (dErr "TooMany" ["limit"] (dCons (dVar 0) dNil))) (dCons (dC (.str ("overflow" : Str))) dNil))))))
  (dSeq (dApp 1 (dTup (dCons (dC (.err "Nothing" [])) (dCons (dVar 0) (dCons (dVar 0) (dCons (dC (.str ("lookup" : Str))) dNil))))))
  (dSeq (dApp 1 (dTup (dCons (dC (.err "Finished" [])) (dCons (dVar 0) (dCons (dVar 0) (dCons (dC (.str ("runtime" : Str))) dNil))))))
  (fun δ => (iceD 1 δ).bind (dRet (dVar 1))))))))))))))))))))))))))
def g__law_some_errors : List D → W D := dBody N__law_some_errors b__law_some_errors
theorem fk__law_some_errors (e : En K mg) : Fk PW w K mg base 10 (ga K "_law_some_errors") (Pr K 1 g__law_some_errors) := by
  obtain ⟨fd, F⟩ := d__law_some_errors e
  exact ⟨fd, _, fn_ly (b := b__law_some_errors) (k := 9) F sc__law_some_errors (ls_seq (ls_newL la_nil)
  (ls_seq (ls_app (le_tup (la_cons (le_err1 (slf := "self") (la_cons le_var la_nil)) (la_cons (le_errF (efl_ok e) (le_err1K (slf := "self") (la_cons le_var la_nil))) (la_cons (le_errF (efl_ok e) (le_err1 (slf := "self") (la_cons le_var la_nil))) (la_cons le_str la_nil))))))
  (ls_seq (ls_app (le_tup (la_cons (le_err1 (slf := "self") (la_cons le_var la_nil)) (la_cons (le_errF (efl_ok e) (le_err1K (slf := "self") (la_cons le_var la_nil))) (la_cons (le_errF (efl_ok e) (le_err1 (slf := "self") (la_cons le_var la_nil))) (la_cons le_str la_nil))))))
  (ls_seq (ls_asg (le_err1K (slf := "self") (la_cons le_var la_nil)) lg_name)
  (ls_seq (ls_app (le_tup (la_cons (le_err1 (slf := "self") (la_cons le_var la_nil)) (la_cons (le_errF (efl_ok e) le_var) (la_cons (le_errF (efl_ok e) (le_err1 (slf := "self") (la_cons le_var la_nil))) (la_cons le_str la_nil))))))
  (ls_seq (ls_asg (le_err1K (slf := "self") (la_cons le_var la_nil)) lg_name)
  (ls_seq (ls_app (le_tup (la_cons (le_err1 (slf := "self") (la_cons le_var la_nil)) (la_cons (le_errF (efl_ok e) le_var) (la_cons (le_errF (efl_ok e) (le_err1 (slf := "self") (la_cons le_var la_nil))) (la_cons le_str la_nil))))))
  (ls_seq (ls_app (le_tup (la_cons (le_err1 (slf := "self") (la_cons le_var la_nil)) (la_cons (le_errF (efl_ok e) (le_err1K (slf := "self") (la_cons le_var la_nil))) (la_cons (le_errF (efl_ok e) (le_err1 (slf := "self") (la_cons le_var la_nil))) (la_cons le_str la_nil))))))
  (ls_seq (ls_app (le_tup (la_cons (le_err1 (slf := "self") (la_cons le_var la_nil)) (la_cons (le_errF (efl_ok e) (le_err1K (slf := "self") (la_cons le_var la_nil))) (la_cons (le_errF (efl_ok e) (le_err1 (slf := "self") (la_cons le_var la_nil))) (la_cons le_str la_nil))))))
  (ls_seq (ls_app (le_tup (la_cons (le_err1 (slf := "self") (la_cons le_var la_nil)) (la_cons (le_errF (efl_ok e) (le_err1K (slf := "self") (la_cons le_var la_nil))) (la_cons (le_errF (efl_ok e) (le_err1 (slf := "self") (la_cons le_var la_nil))) (la_cons le_str la_nil))))))
  (ls_seq (ls_asg (le_err1K (slf := "self") (la_cons le_var la_nil)) lg_name)
  (ls_seq (ls_app (le_tup (la_cons (le_err1 (slf := "self") (la_cons le_var la_nil)) (la_cons (le_errF (efl_ok e) le_var) (la_cons (le_errF (efl_ok e) (le_err1 (slf := "self") (la_cons le_var la_nil))) (la_cons le_str la_nil))))))
  (ls_seq (ls_app (le_tup (la_cons (le_err1 (slf := "self") (la_cons le_var la_nil)) (la_cons (le_errF (efl_ok e) (le_err1K (slf := "self") (la_cons le_var la_nil))) (la_cons (le_errF (efl_ok e) (le_err1 (slf := "self") (la_cons le_var la_nil))) (la_cons le_str la_nil))))))
  (ls_seq (ls_app (le_tup (la_cons (le_err1 (slf := "self") (la_cons le_var la_nil)) (la_cons (le_errF (efl_ok e) (le_err1K (slf := "self") (la_cons le_var la_nil))) (la_cons (le_errF (efl_ok e) (le_err1 (slf := "self") (la_cons le_var la_nil))) (la_cons le_str la_nil))))))
  (ls_seq (ls_asg (le_err2K (slf := "self") (la_cons le_var (la_cons le_int la_nil))) lg_name)
  (ls_seq (ls_app (le_tup (la_cons (le_err2 (slf := "self") (la_cons le_int (la_cons le_var la_nil))) (la_cons (le_errF (efl_ok e) le_var) (la_cons (le_errF (efl_ok e) (le_err2 (slf := "self") (la_cons le_var (la_cons le_int la_nil)))) (la_cons le_str la_nil))))))
  (ls_seq (ls_app (le_tup (la_cons (le_err1 (slf := "self") (la_cons le_var la_nil)) (la_cons (le_errF (efl_ok e) (le_err1K (slf := "self") (la_cons le_var la_nil))) (la_cons (le_errF (efl_ok e) (le_err1 (slf := "self") (la_cons le_var la_nil))) (la_cons le_str la_nil))))))
  (ls_seq (ls_app (le_tup (la_cons (le_err1 (slf := "self") (la_cons le_var la_nil)) (la_cons (le_errF (efl_ok e) (le_err1K (slf := "self") (la_cons le_var la_nil))) (la_cons (le_errF (efl_ok e) (le_err1 (slf := "self") (la_cons le_var la_nil))) (la_cons le_str la_nil))))))
  (ls_seq (ls_app (le_tup (la_cons (le_err1 (slf := "self") (la_cons le_var la_nil)) (la_cons (le_errF (efl_ok e) (le_err1K (slf := "self") (la_cons le_var la_nil))) (la_cons (le_errF (efl_ok e) (le_err1 (slf := "self") (la_cons le_var la_nil))) (la_cons le_str la_nil))))))
  (ls_seq (ls_app (le_tup (la_cons (le_err1 (slf := "self") (la_cons le_var la_nil)) (la_cons (le_errF (efl_ok e) (le_err1K (slf := "self") (la_cons le_var la_nil))) (la_cons (le_errF (efl_ok e) (le_err1 (slf := "self") (la_cons le_var la_nil))) (la_cons le_str la_nil))))))
  (ls_seq (ls_app (le_tup (la_cons (le_err1 (slf := "self") (la_cons le_var la_nil)) (la_cons (le_errF (efl_ok e) (le_err1K (slf := "self") (la_cons le_var la_nil))) (la_cons (le_errF (efl_ok e) (le_err1 (slf := "self") (la_cons le_var la_nil))) (la_cons le_str la_nil))))))
  (ls_seq (ls_app (le_tup (la_cons le_err0 (la_cons le_var (la_cons le_var (la_cons le_str la_nil))))))
  (ls_seq (ls_app (le_tup (la_cons le_err0 (la_cons le_var (la_cons le_var (la_cons le_str la_nil))))))
  (ls_ice 1 (ls_ret le_var))))))))))))))))))))))))) (fun cdv A outer s H E hr tk => (pss_cons (ps_set (i := 1) sc__law_some_errors.nd rfl (by first | exact Or.inl rfl | exact Or.inr rfl) (pe_lst pa_nil))
  (pss_cons (ps_expr (pe_bm PySem.F.plainAttrs_list PySem.F.slot_list_append PySem.F.type_list_append mt_append (pv 1) (pa_cons (pe_tup (pa_cons (pe_eP (fe_InvalidTest e) (hr.mono (by omega)) (by decide) (px tk) rfl (gl e 23 rfl) (pa_cons (pv 0) pa_nil)) (pa_cons (pe_errF (pe_eK (ks := ["argument"]) (fe_InvalidTest e) (hr.mono (by omega)) (px tk) rfl (gl e 23 rfl) (pk_cons (pv 0) pk_nil)) rfl) (pa_cons (pe_errF (pe_eP (fe_InvalidTest e) (hr.mono (by omega)) (by decide) (px tk) rfl (gl e 23 rfl) (pa_cons (pv 0) pa_nil)) rfl) (pa_cons pe_str pa_nil))))) pa_nil)))
  (pss_cons (ps_expr (pe_bm PySem.F.plainAttrs_list PySem.F.slot_list_append PySem.F.type_list_append mt_append (pv 1) (pa_cons (pe_tup (pa_cons (pe_eP (fe_InvalidChange e) (hr.mono (by omega)) (by decide) (px tk) rfl (gl e 22 rfl) (pa_cons (pv 0) pa_nil)) (pa_cons (pe_errF (pe_eK (ks := ["argument"]) (fe_InvalidChange e) (hr.mono (by omega)) (px tk) rfl (gl e 22 rfl) (pk_cons (pv 0) pk_nil)) rfl) (pa_cons (pe_errF (pe_eP (fe_InvalidChange e) (hr.mono (by omega)) (by decide) (px tk) rfl (gl e 22 rfl) (pa_cons (pv 0) pa_nil)) rfl) (pa_cons pe_str pa_nil))))) pa_nil)))
  (pss_cons (ps_set (i := 2) sc__law_some_errors.nd rfl (by first | exact Or.inl rfl | exact Or.inr rfl) (pe_eK (ks := ["argument"]) (fe_InvalidAddress e) (hr.mono (by omega)) (px tk) rfl (gl e 21 rfl) (pk_cons (pv 0) pk_nil)))
  (pss_cons (ps_expr (pe_bm PySem.F.plainAttrs_list PySem.F.slot_list_append PySem.F.type_list_append mt_append (pv 1) (pa_cons (pe_tup (pa_cons (pe_eP (fe_InvalidAddress e) (hr.mono (by omega)) (by decide) (px tk) rfl (gl e 21 rfl) (pa_cons (pv 0) pa_nil)) (pa_cons (pe_errF (pv 2) rfl) (pa_cons (pe_errF (pe_eP (fe_InvalidAddress e) (hr.mono (by omega)) (by decide) (px tk) rfl (gl e 21 rfl) (pa_cons (pv 0) pa_nil)) rfl) (pa_cons pe_str pa_nil))))) pa_nil)))
  (pss_cons (ps_set (i := 2) sc__law_some_errors.nd rfl (by first | exact Or.inl rfl | exact Or.inr rfl) (pe_eK (ks := ["argument"]) (fe_InvalidCommand e) (hr.mono (by omega)) (px tk) rfl (gl e 20 rfl) (pk_cons (pv 0) pk_nil)))
  (pss_cons (ps_expr (pe_bm PySem.F.plainAttrs_list PySem.F.slot_list_append PySem.F.type_list_append mt_append (pv 1) (pa_cons (pe_tup (pa_cons (pe_eP (fe_InvalidCommand e) (hr.mono (by omega)) (by decide) (px tk) rfl (gl e 20 rfl) (pa_cons (pv 0) pa_nil)) (pa_cons (pe_errF (pv 2) rfl) (pa_cons (pe_errF (pe_eP (fe_InvalidCommand e) (hr.mono (by omega)) (by decide) (px tk) rfl (gl e 20 rfl) (pa_cons (pv 0) pa_nil)) rfl) (pa_cons pe_str pa_nil))))) pa_nil)))
  (pss_cons (ps_expr (pe_bm PySem.F.plainAttrs_list PySem.F.slot_list_append PySem.F.type_list_append mt_append (pv 1) (pa_cons (pe_tup (pa_cons (pe_eP (fe_InvalidLine e) (hr.mono (by omega)) (by decide) (px tk) rfl (gl e 19 rfl) (pa_cons (pv 0) pa_nil)) (pa_cons (pe_errF (pe_eK (ks := ["value"]) (fe_InvalidLine e) (hr.mono (by omega)) (px tk) rfl (gl e 19 rfl) (pk_cons (pv 0) pk_nil)) rfl) (pa_cons (pe_errF (pe_eP (fe_InvalidLine e) (hr.mono (by omega)) (by decide) (px tk) rfl (gl e 19 rfl) (pa_cons (pv 0) pa_nil)) rfl) (pa_cons pe_str pa_nil))))) pa_nil)))
  (pss_cons (ps_expr (pe_bm PySem.F.plainAttrs_list PySem.F.slot_list_append PySem.F.type_list_append mt_append (pv 1) (pa_cons (pe_tup (pa_cons (pe_eP (fe_InvalidText e) (hr.mono (by omega)) (by decide) (px tk) rfl (gl e 18 rfl) (pa_cons (pv 0) pa_nil)) (pa_cons (pe_errF (pe_eK (ks := ["value"]) (fe_InvalidText e) (hr.mono (by omega)) (px tk) rfl (gl e 18 rfl) (pk_cons (pv 0) pk_nil)) rfl) (pa_cons (pe_errF (pe_eP (fe_InvalidText e) (hr.mono (by omega)) (by decide) (px tk) rfl (gl e 18 rfl) (pa_cons (pv 0) pa_nil)) rfl) (pa_cons pe_str pa_nil))))) pa_nil)))
  (pss_cons (ps_expr (pe_bm PySem.F.plainAttrs_list PySem.F.slot_list_append PySem.F.type_list_append mt_append (pv 1) (pa_cons (pe_tup (pa_cons (pe_eP (fe_InvalidRoom e) (hr.mono (by omega)) (by decide) (px tk) rfl (gl e 17 rfl) (pa_cons (pv 0) pa_nil)) (pa_cons (pe_errF (pe_eK (ks := ["value"]) (fe_InvalidRoom e) (hr.mono (by omega)) (px tk) rfl (gl e 17 rfl) (pk_cons (pv 0) pk_nil)) rfl) (pa_cons (pe_errF (pe_eP (fe_InvalidRoom e) (hr.mono (by omega)) (by decide) (px tk) rfl (gl e 17 rfl) (pa_cons (pv 0) pa_nil)) rfl) (pa_cons pe_str pa_nil))))) pa_nil)))
  (pss_cons (ps_set (i := 2) sc__law_some_errors.nd rfl (by first | exact Or.inl rfl | exact Or.inr rfl) (pe_eK (ks := ["value"]) (fe_InvalidCheckpoint e) (hr.mono (by omega)) (px tk) rfl (gl e 16 rfl) (pk_cons (pv 0) pk_nil)))
  (pss_cons (ps_expr (pe_bm PySem.F.plainAttrs_list PySem.F.slot_list_append PySem.F.type_list_append mt_append (pv 1) (pa_cons (pe_tup (pa_cons (pe_eP (fe_InvalidCheckpoint e) (hr.mono (by omega)) (by decide) (px tk) rfl (gl e 16 rfl) (pa_cons (pv 0) pa_nil)) (pa_cons (pe_errF (pv 2) rfl) (pa_cons (pe_errF (pe_eP (fe_InvalidCheckpoint e) (hr.mono (by omega)) (by decide) (px tk) rfl (gl e 16 rfl) (pa_cons (pv 0) pa_nil)) rfl) (pa_cons pe_str pa_nil))))) pa_nil)))
  (pss_cons (ps_expr (pe_bm PySem.F.plainAttrs_list PySem.F.slot_list_append PySem.F.type_list_append mt_append (pv 1) (pa_cons (pe_tup (pa_cons (pe_eP (fe_InvalidSkip e) (hr.mono (by omega)) (by decide) (px tk) rfl (gl e 15 rfl) (pa_cons (pv 0) pa_nil)) (pa_cons (pe_errF (pe_eK (ks := ["index"]) (fe_InvalidSkip e) (hr.mono (by omega)) (px tk) rfl (gl e 15 rfl) (pk_cons (pv 0) pk_nil)) rfl) (pa_cons (pe_errF (pe_eP (fe_InvalidSkip e) (hr.mono (by omega)) (by decide) (px tk) rfl (gl e 15 rfl) (pa_cons (pv 0) pa_nil)) rfl) (pa_cons pe_str pa_nil))))) pa_nil)))
  (pss_cons (ps_expr (pe_bm PySem.F.plainAttrs_list PySem.F.slot_list_append PySem.F.type_list_append mt_append (pv 1) (pa_cons (pe_tup (pa_cons (pe_eP (fe_InvalidBlock e) (hr.mono (by omega)) (by decide) (px tk) rfl (gl e 14 rfl) (pa_cons (pv 0) pa_nil)) (pa_cons (pe_errF (pe_eK (ks := ["index"]) (fe_InvalidBlock e) (hr.mono (by omega)) (px tk) rfl (gl e 14 rfl) (pk_cons (pv 0) pk_nil)) rfl) (pa_cons (pe_errF (pe_eP (fe_InvalidBlock e) (hr.mono (by omega)) (by decide) (px tk) rfl (gl e 14 rfl) (pa_cons (pv 0) pa_nil)) rfl) (pa_cons pe_str pa_nil))))) pa_nil)))
  (pss_cons (ps_set (i := 2) sc__law_some_errors.nd rfl (by first | exact Or.inl rfl | exact Or.inr rfl) (pe_eK (ks := ["place", "index"]) (fe_Unreadable e) (hr.mono (by omega)) (px tk) rfl (gl e 13 rfl) (pk_cons (pv 0) (pk_cons pe_int pk_nil))))
  (pss_cons (ps_expr (pe_bm PySem.F.plainAttrs_list PySem.F.slot_list_append PySem.F.type_list_append mt_append (pv 1) (pa_cons (pe_tup (pa_cons (pe_eP (fe_Unreadable e) (hr.mono (by omega)) (by decide) (px tk) rfl (gl e 13 rfl) (pa_cons pe_int (pa_cons (pv 0) pa_nil))) (pa_cons (pe_errF (pv 2) rfl) (pa_cons (pe_errF (pe_eP (fe_Unreadable e) (hr.mono (by omega)) (by decide) (px tk) rfl (gl e 13 rfl) (pa_cons (pv 0) (pa_cons pe_int pa_nil))) rfl) (pa_cons pe_str pa_nil))))) pa_nil)))
  (pss_cons (ps_expr (pe_bm PySem.F.plainAttrs_list PySem.F.slot_list_append PySem.F.type_list_append mt_append (pv 1) (pa_cons (pe_tup (pa_cons (pe_eP (fe_InvalidRow e) (hr.mono (by omega)) (by decide) (px tk) rfl (gl e 12 rfl) (pa_cons (pv 0) pa_nil)) (pa_cons (pe_errF (pe_eK (ks := ["row"]) (fe_InvalidRow e) (hr.mono (by omega)) (px tk) rfl (gl e 12 rfl) (pk_cons (pv 0) pk_nil)) rfl) (pa_cons (pe_errF (pe_eP (fe_InvalidRow e) (hr.mono (by omega)) (by decide) (px tk) rfl (gl e 12 rfl) (pa_cons (pv 0) pa_nil)) rfl) (pa_cons pe_str pa_nil))))) pa_nil)))
  (pss_cons (ps_expr (pe_bm PySem.F.plainAttrs_list PySem.F.slot_list_append PySem.F.type_list_append mt_append (pv 1) (pa_cons (pe_tup (pa_cons (pe_eP (fe_Beyond e) (hr.mono (by omega)) (by decide) (px tk) rfl (gl e 11 rfl) (pa_cons (pv 0) pa_nil)) (pa_cons (pe_errF (pe_eK (ks := ["bound"]) (fe_Beyond e) (hr.mono (by omega)) (px tk) rfl (gl e 11 rfl) (pk_cons (pv 0) pk_nil)) rfl) (pa_cons (pe_errF (pe_eP (fe_Beyond e) (hr.mono (by omega)) (by decide) (px tk) rfl (gl e 11 rfl) (pa_cons (pv 0) pa_nil)) rfl) (pa_cons pe_str pa_nil))))) pa_nil)))
  (pss_cons (ps_expr (pe_bm PySem.F.plainAttrs_list PySem.F.slot_list_append PySem.F.type_list_append mt_append (pv 1) (pa_cons (pe_tup (pa_cons (pe_eP (fe_OutOfRange e) (hr.mono (by omega)) (by decide) (px tk) rfl (gl e 10 rfl) (pa_cons (pv 0) pa_nil)) (pa_cons (pe_errF (pe_eK (ks := ["value"]) (fe_OutOfRange e) (hr.mono (by omega)) (px tk) rfl (gl e 10 rfl) (pk_cons (pv 0) pk_nil)) rfl) (pa_cons (pe_errF (pe_eP (fe_OutOfRange e) (hr.mono (by omega)) (by decide) (px tk) rfl (gl e 10 rfl) (pa_cons (pv 0) pa_nil)) rfl) (pa_cons pe_str pa_nil))))) pa_nil)))
  (pss_cons (ps_expr (pe_bm PySem.F.plainAttrs_list PySem.F.slot_list_append PySem.F.type_list_append mt_append (pv 1) (pa_cons (pe_tup (pa_cons (pe_eP (fe_NoName e) (hr.mono (by omega)) (by decide) (px tk) rfl (gl e 9 rfl) (pa_cons (pv 0) pa_nil)) (pa_cons (pe_errF (pe_eK (ks := ["name"]) (fe_NoName e) (hr.mono (by omega)) (px tk) rfl (gl e 9 rfl) (pk_cons (pv 0) pk_nil)) rfl) (pa_cons (pe_errF (pe_eP (fe_NoName e) (hr.mono (by omega)) (by decide) (px tk) rfl (gl e 9 rfl) (pa_cons (pv 0) pa_nil)) rfl) (pa_cons pe_str pa_nil))))) pa_nil)))
  (pss_cons (ps_expr (pe_bm PySem.F.plainAttrs_list PySem.F.slot_list_append PySem.F.type_list_append mt_append (pv 1) (pa_cons (pe_tup (pa_cons (pe_eP (fe_TooMany e) (hr.mono (by omega)) (by decide) (px tk) rfl (gl e 7 rfl) (pa_cons (pv 0) pa_nil)) (pa_cons (pe_errF (pe_eK (ks := ["limit"]) (fe_TooMany e) (hr.mono (by omega)) (px tk) rfl (gl e 7 rfl) (pk_cons (pv 0) pk_nil)) rfl) (pa_cons (pe_errF (pe_eP (fe_TooMany e) (hr.mono (by omega)) (by decide) (px tk) rfl (gl e 7 rfl) (pa_cons (pv 0) pa_nil)) rfl) (pa_cons pe_str pa_nil))))) pa_nil)))
  (pss_cons (ps_expr (pe_bm PySem.F.plainAttrs_list PySem.F.slot_list_append PySem.F.type_list_append mt_append (pv 1) (pa_cons (pe_tup (pa_cons (pe_err0 baseLE.ef (fy_ex0 (e.c.fact 60 rfl)).1 (gl e 8 rfl) (fy_ex0 (e.c.fact 60 rfl)).2 rfl) (pa_cons (pv 0) (pa_cons (pv 0) (pa_cons pe_str pa_nil))))) pa_nil)))
  (pss_cons (ps_expr (pe_bm PySem.F.plainAttrs_list PySem.F.slot_list_append PySem.F.type_list_append mt_append (pv 1) (pa_cons (pe_tup (pa_cons (pe_err0 baseRE.ef (fy_ex0 (e.c.fact 59 rfl)).1 (gl e 5 rfl) (fy_ex0 (e.c.fact 59 rfl)).2 rfl) (pa_cons (pv 0) (pa_cons (pv 0) (pa_cons pe_str pa_nil))))) pa_nil)))
  (pss_one (ps_ret (pv 1))))))))))))))))))))))))))), F.bindsN (fun _ _ _ _ _ _ us hl => match us, hl with | [_], _ => rfl), F.kp⟩
abbrev N__law_sorts : List Str := ["_law_error", "_law_flags", "_law_one", "_law_flag"]
theorem sc__law_sorts : FnScope N__law_sorts ["_law_error"] (defScope s__law_sorts) := ⟨rfl, rfl, rfl, by decide +kernel, rfl, by decide +kernel, by decide +kernel⟩
@[reducible] def b__law_sorts : List Sl → W Out := (dSeq (dAsg (dLst (dCons (dOp1 (dIsV iv_ValueError) (dVar 0)) (dCons (dOp1 (dIsV iv_LookupError) (dVar 0)) dNil))) (dName 1))
  (dSeq (dAsg (dOp2 addD (dVar 1) (dLst (dCons (dOp1 (dIsV iv_OverflowError) (dVar 0)) (dCons (dOp1 (dIsV iv_RuntimeError) (dVar 0)) dNil)))) (dName 1))
  (dRet (dLc (dZip (dCons (dLst (dCons (dC (.str ("value" : Str))) (dCons (dC (.str ("lookup" : Str))) (dCons (dC (.str ("overflow" : Str))) (dCons (dC (.str ("runtime" : Str))) dNil))))) (dCons (dVar 1) dNil))) (dGTup 2 (dGCons (dName 2) (dGCons (dName 3) dGNil))) (dTru (dVar 3)) (dVar 2) [2, 3]))))
def g__law_sorts : List D → W D := dBody N__law_sorts b__law_sorts
theorem fk__law_sorts (e : En K mg) : Fk PW w K mg base 2 (ga K "_law_sorts") (Pr K 1 g__law_sorts) := by
  obtain ⟨fd, F⟩ := d__law_sorts e
  exact ⟨fd, _, fn_ly (b := b__law_sorts) (k := 1) F sc__law_sorts (ls_seq (ls_asg (le_lst (la_cons (le_isV (cv := .ty "ValueError") (fun _ h => h) (iv_ok_ValueError e) le_var) (la_cons (le_isV (cv := .ty "LookupError") (fun _ h => h) (iv_ok_LookupError e) le_var) la_nil))) lg_name)
  (ls_seq (ls_asg (le_op2 lo_add le_var (le_lst (la_cons (le_isV (cv := .ty "OverflowError") (fun _ h => h) (iv_ok_OverflowError e) le_var) (la_cons (le_isV (cv := .ty "RuntimeError") (fun _ h => h) (iv_ok_RuntimeError e) le_var) la_nil)))) lg_name)
  (ls_ret (le_lc (li_zip (la_cons (le_lst (la_cons le_str (la_cons le_str (la_cons le_str (la_cons le_str la_nil))))) (la_cons le_var la_nil))) (lg_tup (lgs_cons lg_name (lgs_cons lg_name lgs_nil))) (lt_tru le_var) le_var (fun _ h => h))))) (fun cdv A outer s H E hr tk => (pss_cons (ps_set (i := 1) sc__law_sorts.nd rfl (by first | exact Or.inl rfl | exact Or.inr rfl) (pe_lst (pa_cons (pe_callB call_isV rfl (fr e 6 rfl) boot_isinstance (pa_cons (pv 0) (pa_cons (pe_bltn rfl (fr e 65 rfl) PyProof.Rows.Boot.«ValueError» rfl) pa_nil))) (pa_cons (pe_callB call_isV rfl (fr e 6 rfl) boot_isinstance (pa_cons (pv 0) (pa_cons (pe_bltn rfl (fr e 64 rfl) PyProof.Rows.Boot.«LookupError» rfl) pa_nil))) pa_nil))))
  (pss_cons (ps_set (i := 1) sc__law_sorts.nd rfl (by first | exact Or.inl rfl | exact Or.inr rfl) (pe_op op_addU (pv 1) (pe_lst (pa_cons (pe_callB call_isV rfl (fr e 6 rfl) boot_isinstance (pa_cons (pv 0) (pa_cons (pe_bltn rfl (fr e 63 rfl) PyProof.Rows.Boot.«OverflowError» rfl) pa_nil))) (pa_cons (pe_callB call_isV rfl (fr e 6 rfl) boot_isinstance (pa_cons (pv 0) (pa_cons (pe_bltn rfl (fr e 62 rfl) PyProof.Rows.Boot.«RuntimeError» rfl) pa_nil))) pa_nil)))))
  (pss_one (ps_ret (pe_lc (own := [("_law_one", 2), ("_law_flag", 3)]) rfl sc__law_sorts.nd (RZ.pi_zipA rfl (fr e 61 rfl) (pa_cons (pe_lst (pa_cons pe_str (pa_cons pe_str (pa_cons pe_str (pa_cons pe_str pa_nil))))) (pa_cons (pv 1) pa_nil))) (blkOk_by (N := N__law_sorts) (sc := defScope s__law_sorts) (by decide +kernel)) (fun _ _ _ _ _ => (pg_tup (n := 2) rfl (pgs_cons (pg_name (i := 2) sc__law_sorts.nd rfl (by first | exact Or.inl rfl | exact Or.inr rfl)) (pgs_cons (pg_name (i := 3) sc__law_sorts.nd rfl (by first | exact Or.inl rfl | exact Or.inr rfl)) pgs_nil)))) (fun _ _ _ _ _ => (pts_one (pt_truth (pv 3) (fun _ => rfl)))) (fun _ _ _ _ _ => (pv 2)))))))), F.bindsN (fun _ _ _ _ _ _ us hl => match us, hl with | [_], _ => rfl), F.kp⟩
abbrev N_law : List Str := ["_law_script", "_law_pen_here", "_law_turn", "_law_thing", "_law_kept", "_law_error", "_law_titled", "_law_placed", "_law_sort", "_law_some"]
theorem sc_law : FnScope N_law ["_law_script"] (defScope s_law) := ⟨rfl, rfl, rfl, by decide +kernel, rfl, by decide +kernel, by decide +kernel⟩
@[reducible] def b_law : List Sl → W Out := (dSeq (dFor (dIR1 (dCons (dOp2 addD (dC (.int 3)) (dOpn minD (dCons (dC (.int 5)) (dCons (dOpn lenD (dCons (dVar 0) dNil)) dNil)))) dNil)) (dName 2) (dSeq (dAsg (dCall 1 g__law_any_value (dCons (dVar 1) dNil)) (dName 3))
  (dSeq (dAsg (dOpn reprQD (dCons (dVar 3) dNil)) (dName 4))
  (dFor (dIL (dCall 1 g__law_some_errors (dCons (dVar 3) dNil))) (dGTup 4 (dGCons (dName 5) (dGCons (dName 6) (dGCons (dName 7) (dGCons (dName 8) dGNil))))) (dSeq (dIf (dOr (dTest (dOp2 neD (dOpn reprQD (dCons (dLst (dCons (dVar 6) (dCons (dVar 7) dNil))) dNil)) (dOpn reprQD (dCons (dLst (dCons (dVar 3) (dCons (dVar 3) dNil))) dNil)))) (dTest (dOp2 neD (dCall 1 g__law_sorts (dCons (dVar 5) dNil)) (dLst (dCons (dVar 8) dNil))))) (dRet (dC (.bl false))) dNext)
  (dIf (dOr (dTest (dOp2 neD (dCount (dCall 1 g__law_classes (dCons (dVar 5) dNil)) (dCons (dC (.bl true)) dNil)) (dC (.int 1)))) (dTest (dOp2 neD (dOpn reprQD (dCons (dVar 3) dNil)) (dVar 4)))) (dRet (dC (.bl false))) dNext))))))
  (dSeq (dAsg (dLst (dCons (dC (.int 8)) (dCons (dC (.int 20)) (dCons (dC (.int 8)) (dCons (dC (.int 12)) (dCons (dC (.int 3)) (dCons (dC (.int 32)) (dCons (dC (.int 10)) (dCons (dC (.int 4)) dNil))))))))) (dName 9))
  (dRet (dAndV (dOp2 eqD (dOpn reprQD (dCons (dVar 9) dNil)) (dC (.str ("[8, 20, 8, 12, 3, 32, 10, 4]" : Str)))) (dOp2 eqD (dOpn reprQD (dCons (dC (.int 1000000000000000000000000000000)) dNil)) (dOpn reprQD (dCons (dOp2 powD (dC (.int 10)) (dC (.int 30))) dNil)))))))
theorem fg_law (e : En K mg) (tb : ∀ t ∈ tabs3 K, LamX.TabB base mg t.1 t.2.1) (sm : ∃ o, base.get? sysModules = some o) {fd : FuncData} (F : FunD K "law" "law" (defArgs s_law) (defBody s_law) (defScope s_law) [] [] (ga K "law") fd) (hw : ∀ ns : List Int, (b_law (some (.sct ns) :: some .pen :: List.replicate 8 none)).wp ⟨2 ^ 60, []⟩ (fun _ o => o = .rt (.bl true)) (fun _ _ => False)) : Lx.FnG PW w K mg base (L2.CX PW w) 26 (ga K "law") fd ["_law_script"] (Ly.spLaw K) :=
  law_ly (b := b_law) (k := 25) F sc_law rfl rfl (ls_seq (ls_for (li_range1 (la_cons (le_op2 lo_add le_int (le_opn lo_min (la_cons le_int (la_cons (le_opn lo_len (la_cons le_var la_nil)) la_nil)))) la_nil)) lg_name (ls_seq (ls_asg (le_call (la_cons le_var la_nil)) lg_name)
  (ls_seq (ls_asg (le_opn lo_reprQ (la_cons le_var la_nil)) lg_name)
  (ls_for (li_list (le_call (la_cons le_var la_nil))) (lg_tup (lgs_cons lg_name (lgs_cons lg_name (lgs_cons lg_name (lgs_cons lg_name lgs_nil))))) (ls_seq (ls_if (lt_or (lt_test (le_op2 lo_ne (le_opn lo_reprQ (la_cons (le_lst (la_cons le_var (la_cons le_var la_nil))) la_nil)) (le_opn lo_reprQ (la_cons (le_lst (la_cons le_var (la_cons le_var la_nil))) la_nil)))) (lt_test (le_op2 lo_ne (le_call (la_cons le_var la_nil)) (le_lst (la_cons le_var la_nil))))) (ls_ret le_bl) ls_next)
  (ls_if (lt_or (lt_test (le_op2 lo_ne (le_count (le_call (la_cons le_var la_nil)) (la_cons le_bl la_nil)) le_int)) (lt_test (le_op2 lo_ne (le_opn lo_reprQ (la_cons le_var la_nil)) le_var))) (ls_ret le_bl) ls_next))))))
  (ls_seq (ls_asg (le_lst (la_cons le_int (la_cons le_int (la_cons le_int (la_cons le_int (la_cons le_int (la_cons le_int (la_cons le_int (la_cons le_int la_nil))))))))) lg_name)
  (ls_ret (le_and (le_op2 lo_eq (le_opn lo_reprQ (la_cons le_var la_nil)) le_str) (le_op2 lo_eq (le_opn lo_reprQ (la_cons le_int la_nil)) (le_opn lo_reprQ (la_cons (le_op2 lo_pow le_int le_int) la_nil))))))) (fun cdv A outer s H E hco hgd hr tk => pss_cons (ps_set (i := 1) sc_law.nd rfl (by first | exact Or.inl rfl | exact Or.inr rfl) (pe_fk (fk__law_pen e) (hr.mono (by omega)) (px tk) rfl (gl e 82 rfl) (pa_cons (pv 0) pa_nil)))
  (pss_cons (ps_for (passes_of rfl) rfl (pi_range1 rfl (fr e 77 rfl) (pa_cons (pe_op op_addU pe_int (pe_callB (call_min2 rfl) rfl (fr e 76 rfl) boot_min (pa_cons pe_int (pa_cons (pe_callB call_len rfl (fr e 1 rfl) boot_len (pa_cons (pv 0) pa_nil)) pa_nil)))) pa_nil)) (pg_name (i := 2) sc_law.nd rfl (by first | exact Or.inl rfl | exact Or.inr rfl)) (pss_cons (ps_set (i := 3) sc_law.nd rfl (by first | exact Or.inl rfl | exact Or.inr rfl) (pe_fk (fk__law_any_value e) (hr.mono (by omega)) (px tk) rfl (gl e 81 rfl) (pa_cons (pv 1) pa_nil)))
  (pss_cons (ps_set (i := 4) sc_law.nd rfl (by first | exact Or.inl rfl | exact Or.inr rfl) (pe_callB (call_reprQ hgd hr.units sm) rfl (fr e 66 rfl) boot_repr (pa_cons (pv 3) pa_nil)))
  (pss_one (ps_for (passes_of rfl) rfl (pi_list (pe_fk (fk__law_some_errors e) (hr.mono (by omega)) (px tk) rfl (gl e 78 rfl) (pa_cons (pv 3) pa_nil))) (pg_tup (n := 4) rfl (pgs_cons (pg_name (i := 5) sc_law.nd rfl (by first | exact Or.inl rfl | exact Or.inr rfl)) (pgs_cons (pg_name (i := 6) sc_law.nd rfl (by first | exact Or.inl rfl | exact Or.inr rfl)) (pgs_cons (pg_name (i := 7) sc_law.nd rfl (by first | exact Or.inl rfl | exact Or.inr rfl)) (pgs_cons (pg_name (i := 8) sc_law.nd rfl (by first | exact Or.inl rfl | exact Or.inr rfl)) pgs_nil))))) (pss_cons (ps_if (PW.pt (pw_or (pt_cmpR (op_neU hr.units) (pe_callB (call_reprQ hgd hr.units sm) rfl (fr e 66 rfl) boot_repr (pa_cons (pe_lst (pa_cons (pv 6) (pa_cons (pv 7) pa_nil))) pa_nil)) (pe_callB (call_reprQ hgd hr.units sm) rfl (fr e 66 rfl) boot_repr (pa_cons (pe_lst (pa_cons (pv 3) (pa_cons (pv 3) pa_nil))) pa_nil)) (nomark _)) (pw_or1 (pt_cmpR (op_neU hr.units) (pe_fk (fk__law_sorts e) (hr.mono (by omega)) (px tk) rfl (gl e 80 rfl) (pa_cons (pv 5) pa_nil)) (pe_lst (pa_cons (pv 8) pa_nil)) (nomark _))))) (pss_one (ps_ret pe_bl)) pss_nil)
  (pss_one (ps_if (PW.pt (pw_or (pt_cmpR (op_neU hr.units) (pe_bm PySem.F.plainAttrs_list PySem.F.slot_list_count PySem.F.type_list_count mt_countB (pe_fk (fk__law_classes e) (hr.mono (by omega)) (px tk) rfl (gl e 79 rfl) (pa_cons (pv 5) pa_nil)) (pa_cons pe_bl pa_nil)) pe_int (nomark _)) (pw_or1 (pt_cmpR (op_neU hr.units) (pe_callB (call_reprQ hgd hr.units sm) rfl (fr e 66 rfl) boot_repr (pa_cons (pv 3) pa_nil)) (pv 4) (nomark _))))) (pss_one (ps_ret pe_bl)) pss_nil))))))))
  (pss_cons (ps_set (i := 9) sc_law.nd rfl (by first | exact Or.inl rfl | exact Or.inr rfl) (pe_lst (pa_cons (pe_gi (gi e 75 rfl) rfl) (pa_cons (pe_gi (gi e 74 rfl) rfl) (pa_cons (pe_gi (gi e 73 rfl) rfl) (pa_cons (pe_gi (gi e 72 rfl) rfl) (pa_cons (pe_gi (gi e 71 rfl) rfl) (pa_cons (pe_gi (gi e 70 rfl) rfl) (pa_cons (pe_gi (gi e 69 rfl) rfl) (pa_cons (pe_gi (gi e 68 rfl) rfl) pa_nil))))))))))
  (pss_one (ps_ret (pe_andT (pe_cmpR (op_eqU hr.units) (pe_callB (call_reprQ hgd hr.units sm) rfl (fr e 66 rfl) boot_repr (pa_cons (pv 9) pa_nil)) pe_str (nomark _)) (pe_one (pe_cmpR (op_eqU hr.units) (pe_callB (call_reprQ hgd hr.units sm) rfl (fr e 66 rfl) boot_repr (pa_cons (pe_gi (gi e 67 rfl) rfl) pa_nil)) (pe_callB (call_reprQ hgd hr.units sm) rfl (fr e 66 rfl) boot_repr (pa_cons (pe_op op_pow pe_int pe_int) pa_nil)) (nomark _))))))))) hw
theorem gl_law (e : En K mg) : mg "law" = some (.ref (ga K "law")) := (gl e 83 rfl)
end
end Lw
set_option Elab.async false
set_option linter.all false
set_option maxRecDepth 100000
set_option maxHeartbeats 4000000
/-! the plain law 1: what is drawn. -/
namespace Lw
open PySem L2 Ly
open Lx (atI_in shaped_ints inS cutL revS uniq)
theorem pick_s {x : Str} (h1 : 1 ≤ x.length) (h : x.length ≤ 4000) : Tm 1 (g__law_pick [.pen, .str x]) (fun d => ∃ c ∈ x.cps.toList, d = .str ⟨#[c]⟩) := by
  refine tBody (tRet (P := fun d => ∃ c ∈ x.cps.toList, d = .str ⟨#[c]⟩) ?_ fun d hd => ⟨d, rfl, hd⟩)
  refine Tm.bindR (Rt.var rfl) (Tm.bind (B2 := 0) (tCall (Rt.cons (Rt.var rfl) (Rt.cons (Rt.opn (Rt.cons (Rt.var rfl) Rt.nil) (len_s h)) Rt.nil)) rfl (draw_t (by omega) (by omega))) (fun d hd => ?_) (Nat.le_refl _))
  obtain ⟨i, rfl, i0, i1⟩ := hd
  obtain ⟨c, hc, hc2⟩ := atI_in (xs := x.cps.toList) i0 (by rw [← len_cps]; exact i1)
  exact Tm.of (ixS h hc) ⟨c, List.mem_of_getElem? hc2, rfl⟩
theorem pick_l {xs : List D} (h1 : 1 ≤ xs.length) (h : xs.length ≤ 4000) : Tm 1 (g__law_pick [.pen, .lst xs]) (fun d => d ∈ xs) := by
  refine tBody (tRet (P := fun d => d ∈ xs) ?_ fun d hd => ⟨d, rfl, hd⟩)
  refine Tm.bindR (Rt.var rfl) (Tm.bind (B2 := 0) (tCall (Rt.cons (Rt.var rfl) (Rt.cons (Rt.opn (Rt.cons (Rt.var rfl) Rt.nil) Rt.ret) Rt.nil)) rfl (draw_t (by omega) (by omega))) (fun d hd => ?_) (Nat.le_refl _))
  obtain ⟨i, rfl, i0, i1⟩ := hd
  obtain ⟨c, hc, hc2⟩ := atI_in (xs := xs) i0 i1
  exact Tm.of (Rt.ixL hc) (List.mem_of_getElem? hc2)
end Lw
set_option Elab.async false
set_option linter.all false
set_option maxRecDepth 100000
set_option maxHeartbeats 4000000
/-! k36, the plain law. -/
namespace Lw
open PySem L2 Ly
open Lx (atI_in shaped_ints Ky)
def ent (c : Str) (gs : List (Str × D)) (x : D) (so : Str) : D := .tup [.err c gs, x, x, .str so]
def ents (x : D) : List D := [ent "InvalidTest" [("argument", x)] x "value",
  ent "InvalidChange" [("argument", x)] x "value",
  ent "InvalidAddress" [("argument", x)] x "value",
  ent "InvalidCommand" [("argument", x)] x "value",
  ent "InvalidLine" [("value", x)] x "value",
  ent "InvalidText" [("value", x)] x "value",
  ent "InvalidRoom" [("value", x)] x "value",
  ent "InvalidCheckpoint" [("value", x)] x "value",
  ent "InvalidSkip" [("index", x)] x "value",
  ent "InvalidBlock" [("index", x)] x "value",
  ent "Unreadable" [("place", x), ("index", .int 0)] x "value",
  ent "InvalidRow" [("row", x)] x "value",
  ent "Beyond" [("bound", x)] x "value",
  ent "OutOfRange" [("value", x)] x "lookup",
  ent "NoName" [("name", x)] x "lookup",
  ent "TooMany" [("limit", x)] x "overflow",
  ent "Nothing" [] x "lookup",
  ent "Finished" [] x "runtime"]
theorem lk1 {a : Str} {x : D} (r : List (Str × D)) (_ : Unit := ()) : ((a, x) :: r).lookup a = some x := by rw [List.lookup_cons, beq_self_eq_true]
theorem lk2 {x y : D} : ([("place", x), ("index", y)] : List (Str × D)).lookup ("index" : Str) = some y := by
  have h : (("index" : Str) == "place") = false := by decide +kernel
  rw [List.lookup_cons, h, List.lookup_cons, beq_self_eq_true]
theorem some_errors_r (x : D) : Rt (g__law_some_errors [x]) (.lst (ents x)) := by
  refine Rt.bodyR (Rq.new (δ := [some x, none, none]) (i := 1) (xs := []) Rt.nil (by decide) ?_)
  exact (Rq.app (y := ent "InvalidTest" [("argument", x)] x "value") (show 1 < 3 by decide) (show 0 < 4000 by decide) (fun j => Rt.tup (Rt.cons (Rt.err (Rt.cons (Rt.var rfl) Rt.nil) rfl) (Rt.cons (Rt.errF (c := "InvalidTest") (gs := [("argument", x)]) (Rt.err (Rt.cons (Rt.var rfl) Rt.nil) rfl) (by decide +kernel) (lk1 _)) (Rt.cons (Rt.errF (c := "InvalidTest") (gs := [("argument", x)]) (Rt.err (Rt.cons (Rt.var rfl) Rt.nil) rfl) (by decide +kernel) (lk1 _)) (Rt.cons Rt.cC Rt.nil)))) (small (show 4 ≤ 4000 by decide)))
    (Rq.app (y := ent "InvalidChange" [("argument", x)] x "value") (show 1 < 3 by decide) (show 1 < 4000 by decide) (fun j => Rt.tup (Rt.cons (Rt.err (Rt.cons (Rt.var rfl) Rt.nil) rfl) (Rt.cons (Rt.errF (c := "InvalidChange") (gs := [("argument", x)]) (Rt.err (Rt.cons (Rt.var rfl) Rt.nil) rfl) (by decide +kernel) (lk1 _)) (Rt.cons (Rt.errF (c := "InvalidChange") (gs := [("argument", x)]) (Rt.err (Rt.cons (Rt.var rfl) Rt.nil) rfl) (by decide +kernel) (lk1 _)) (Rt.cons Rt.cC Rt.nil)))) (small (show 4 ≤ 4000 by decide)))
    (Rq.asg (d := .err "InvalidAddress" [("argument", x)]) (by decide) (fun j => (Rt.err (Rt.cons (Rt.var rfl) Rt.nil) rfl))
    (Rq.app (y := ent "InvalidAddress" [("argument", x)] x "value") (show 1 < 3 by decide) (show 2 < 4000 by decide) (fun j => Rt.tup (Rt.cons (Rt.err (Rt.cons (Rt.var rfl) Rt.nil) rfl) (Rt.cons (Rt.errF (c := "InvalidAddress") (gs := [("argument", x)]) (Rt.var rfl) (by decide +kernel) (lk1 _)) (Rt.cons (Rt.errF (c := "InvalidAddress") (gs := [("argument", x)]) (Rt.err (Rt.cons (Rt.var rfl) Rt.nil) rfl) (by decide +kernel) (lk1 _)) (Rt.cons Rt.cC Rt.nil)))) (small (show 4 ≤ 4000 by decide)))
    (Rq.asg (d := .err "InvalidCommand" [("argument", x)]) (by decide) (fun j => (Rt.err (Rt.cons (Rt.var rfl) Rt.nil) rfl))
    (Rq.app (y := ent "InvalidCommand" [("argument", x)] x "value") (show 1 < 3 by decide) (show 3 < 4000 by decide) (fun j => Rt.tup (Rt.cons (Rt.err (Rt.cons (Rt.var rfl) Rt.nil) rfl) (Rt.cons (Rt.errF (c := "InvalidCommand") (gs := [("argument", x)]) (Rt.var rfl) (by decide +kernel) (lk1 _)) (Rt.cons (Rt.errF (c := "InvalidCommand") (gs := [("argument", x)]) (Rt.err (Rt.cons (Rt.var rfl) Rt.nil) rfl) (by decide +kernel) (lk1 _)) (Rt.cons Rt.cC Rt.nil)))) (small (show 4 ≤ 4000 by decide)))
    (Rq.app (y := ent "InvalidLine" [("value", x)] x "value") (show 1 < 3 by decide) (show 4 < 4000 by decide) (fun j => Rt.tup (Rt.cons (Rt.err (Rt.cons (Rt.var rfl) Rt.nil) rfl) (Rt.cons (Rt.errF (c := "InvalidLine") (gs := [("value", x)]) (Rt.err (Rt.cons (Rt.var rfl) Rt.nil) rfl) (by decide +kernel) (lk1 _)) (Rt.cons (Rt.errF (c := "InvalidLine") (gs := [("value", x)]) (Rt.err (Rt.cons (Rt.var rfl) Rt.nil) rfl) (by decide +kernel) (lk1 _)) (Rt.cons Rt.cC Rt.nil)))) (small (show 4 ≤ 4000 by decide)))
    (Rq.app (y := ent "InvalidText" [("value", x)] x "value") (show 1 < 3 by decide) (show 5 < 4000 by decide) (fun j => Rt.tup (Rt.cons (Rt.err (Rt.cons (Rt.var rfl) Rt.nil) rfl) (Rt.cons (Rt.errF (c := "InvalidText") (gs := [("value", x)]) (Rt.err (Rt.cons (Rt.var rfl) Rt.nil) rfl) (by decide +kernel) (lk1 _)) (Rt.cons (Rt.errF (c := "InvalidText") (gs := [("value", x)]) (Rt.err (Rt.cons (Rt.var rfl) Rt.nil) rfl) (by decide +kernel) (lk1 _)) (Rt.cons Rt.cC Rt.nil)))) (small (show 4 ≤ 4000 by decide)))
    (Rq.app (y := ent "InvalidRoom" [("value", x)] x "value") (show 1 < 3 by decide) (show 6 < 4000 by decide) (fun j => Rt.tup (Rt.cons (Rt.err (Rt.cons (Rt.var rfl) Rt.nil) rfl) (Rt.cons (Rt.errF (c := "InvalidRoom") (gs := [("value", x)]) (Rt.err (Rt.cons (Rt.var rfl) Rt.nil) rfl) (by decide +kernel) (lk1 _)) (Rt.cons (Rt.errF (c := "InvalidRoom") (gs := [("value", x)]) (Rt.err (Rt.cons (Rt.var rfl) Rt.nil) rfl) (by decide +kernel) (lk1 _)) (Rt.cons Rt.cC Rt.nil)))) (small (show 4 ≤ 4000 by decide)))
    (Rq.asg (d := .err "InvalidCheckpoint" [("value", x)]) (by decide) (fun j => (Rt.err (Rt.cons (Rt.var rfl) Rt.nil) rfl))
    (Rq.app (y := ent "InvalidCheckpoint" [("value", x)] x "value") (show 1 < 3 by decide) (show 7 < 4000 by decide) (fun j => Rt.tup (Rt.cons (Rt.err (Rt.cons (Rt.var rfl) Rt.nil) rfl) (Rt.cons (Rt.errF (c := "InvalidCheckpoint") (gs := [("value", x)]) (Rt.var rfl) (by decide +kernel) (lk1 _)) (Rt.cons (Rt.errF (c := "InvalidCheckpoint") (gs := [("value", x)]) (Rt.err (Rt.cons (Rt.var rfl) Rt.nil) rfl) (by decide +kernel) (lk1 _)) (Rt.cons Rt.cC Rt.nil)))) (small (show 4 ≤ 4000 by decide)))
    (Rq.app (y := ent "InvalidSkip" [("index", x)] x "value") (show 1 < 3 by decide) (show 8 < 4000 by decide) (fun j => Rt.tup (Rt.cons (Rt.err (Rt.cons (Rt.var rfl) Rt.nil) rfl) (Rt.cons (Rt.errF (c := "InvalidSkip") (gs := [("index", x)]) (Rt.err (Rt.cons (Rt.var rfl) Rt.nil) rfl) (by decide +kernel) (lk1 _)) (Rt.cons (Rt.errF (c := "InvalidSkip") (gs := [("index", x)]) (Rt.err (Rt.cons (Rt.var rfl) Rt.nil) rfl) (by decide +kernel) (lk1 _)) (Rt.cons Rt.cC Rt.nil)))) (small (show 4 ≤ 4000 by decide)))
    (Rq.app (y := ent "InvalidBlock" [("index", x)] x "value") (show 1 < 3 by decide) (show 9 < 4000 by decide) (fun j => Rt.tup (Rt.cons (Rt.err (Rt.cons (Rt.var rfl) Rt.nil) rfl) (Rt.cons (Rt.errF (c := "InvalidBlock") (gs := [("index", x)]) (Rt.err (Rt.cons (Rt.var rfl) Rt.nil) rfl) (by decide +kernel) (lk1 _)) (Rt.cons (Rt.errF (c := "InvalidBlock") (gs := [("index", x)]) (Rt.err (Rt.cons (Rt.var rfl) Rt.nil) rfl) (by decide +kernel) (lk1 _)) (Rt.cons Rt.cC Rt.nil)))) (small (show 4 ≤ 4000 by decide)))
    (Rq.asg (d := .err "Unreadable" [("place", x), ("index", .int 0)]) (by decide) (fun j => Rt.errR (Rt.cons (Rt.var rfl) (Rt.cons Rt.cC Rt.nil)) rfl)
    (Rq.app (y := ent "Unreadable" [("place", x), ("index", .int 0)] x "value") (show 1 < 3 by decide) (show 10 < 4000 by decide) (fun j => Rt.tup (Rt.cons (Rt.err (Rt.cons Rt.cC (Rt.cons (Rt.var rfl) Rt.nil)) rfl) (Rt.cons (Rt.errF (c := "Unreadable") (gs := [("place", x), ("index", .int 0)]) (Rt.var rfl) (by decide +kernel) (lk1 _)) (Rt.cons (Rt.errF (c := "Unreadable") (gs := [("place", .int 0), ("index", x)]) (Rt.err (Rt.cons (Rt.var rfl) (Rt.cons Rt.cC Rt.nil)) rfl) (by decide +kernel) lk2) (Rt.cons Rt.cC Rt.nil)))) (small (show 4 ≤ 4000 by decide)))
    (Rq.app (y := ent "InvalidRow" [("row", x)] x "value") (show 1 < 3 by decide) (show 11 < 4000 by decide) (fun j => Rt.tup (Rt.cons (Rt.err (Rt.cons (Rt.var rfl) Rt.nil) rfl) (Rt.cons (Rt.errF (c := "InvalidRow") (gs := [("row", x)]) (Rt.err (Rt.cons (Rt.var rfl) Rt.nil) rfl) (by decide +kernel) (lk1 _)) (Rt.cons (Rt.errF (c := "InvalidRow") (gs := [("row", x)]) (Rt.err (Rt.cons (Rt.var rfl) Rt.nil) rfl) (by decide +kernel) (lk1 _)) (Rt.cons Rt.cC Rt.nil)))) (small (show 4 ≤ 4000 by decide)))
    (Rq.app (y := ent "Beyond" [("bound", x)] x "value") (show 1 < 3 by decide) (show 12 < 4000 by decide) (fun j => Rt.tup (Rt.cons (Rt.err (Rt.cons (Rt.var rfl) Rt.nil) rfl) (Rt.cons (Rt.errF (c := "Beyond") (gs := [("bound", x)]) (Rt.err (Rt.cons (Rt.var rfl) Rt.nil) rfl) (by decide +kernel) (lk1 _)) (Rt.cons (Rt.errF (c := "Beyond") (gs := [("bound", x)]) (Rt.err (Rt.cons (Rt.var rfl) Rt.nil) rfl) (by decide +kernel) (lk1 _)) (Rt.cons Rt.cC Rt.nil)))) (small (show 4 ≤ 4000 by decide)))
    (Rq.app (y := ent "OutOfRange" [("value", x)] x "lookup") (show 1 < 3 by decide) (show 13 < 4000 by decide) (fun j => Rt.tup (Rt.cons (Rt.err (Rt.cons (Rt.var rfl) Rt.nil) rfl) (Rt.cons (Rt.errF (c := "OutOfRange") (gs := [("value", x)]) (Rt.err (Rt.cons (Rt.var rfl) Rt.nil) rfl) (by decide +kernel) (lk1 _)) (Rt.cons (Rt.errF (c := "OutOfRange") (gs := [("value", x)]) (Rt.err (Rt.cons (Rt.var rfl) Rt.nil) rfl) (by decide +kernel) (lk1 _)) (Rt.cons Rt.cC Rt.nil)))) (small (show 4 ≤ 4000 by decide)))
    (Rq.app (y := ent "NoName" [("name", x)] x "lookup") (show 1 < 3 by decide) (show 14 < 4000 by decide) (fun j => Rt.tup (Rt.cons (Rt.err (Rt.cons (Rt.var rfl) Rt.nil) rfl) (Rt.cons (Rt.errF (c := "NoName") (gs := [("name", x)]) (Rt.err (Rt.cons (Rt.var rfl) Rt.nil) rfl) (by decide +kernel) (lk1 _)) (Rt.cons (Rt.errF (c := "NoName") (gs := [("name", x)]) (Rt.err (Rt.cons (Rt.var rfl) Rt.nil) rfl) (by decide +kernel) (lk1 _)) (Rt.cons Rt.cC Rt.nil)))) (small (show 4 ≤ 4000 by decide)))
    (Rq.app (y := ent "TooMany" [("limit", x)] x "overflow") (show 1 < 3 by decide) (show 15 < 4000 by decide) (fun j => Rt.tup (Rt.cons (Rt.err (Rt.cons (Rt.var rfl) Rt.nil) rfl) (Rt.cons (Rt.errF (c := "TooMany") (gs := [("limit", x)]) (Rt.err (Rt.cons (Rt.var rfl) Rt.nil) rfl) (by decide +kernel) (lk1 _)) (Rt.cons (Rt.errF (c := "TooMany") (gs := [("limit", x)]) (Rt.err (Rt.cons (Rt.var rfl) Rt.nil) rfl) (by decide +kernel) (lk1 _)) (Rt.cons Rt.cC Rt.nil)))) (small (show 4 ≤ 4000 by decide)))
    (Rq.app (y := ent "Nothing" [] x "lookup") (show 1 < 3 by decide) (show 16 < 4000 by decide) (fun j => Rt.tup (Rt.cons Rt.cC (Rt.cons (Rt.var rfl) (Rt.cons (Rt.var rfl) (Rt.cons Rt.cC Rt.nil)))) (small (show 4 ≤ 4000 by decide)))
    (Rq.app (y := ent "Finished" [] x "runtime") (show 1 < 3 by decide) (show 17 < 4000 by decide) (fun j => Rt.tup (Rt.cons Rt.cC (Rt.cons (Rt.var rfl) (Rt.cons (Rt.var rfl) (Rt.cons Rt.cC Rt.nil)))) (small (show 4 ≤ 4000 by decide)))
    (Rq.ice (show 1 < 3 by decide) (Rt.rets (Rt.var rfl)))))))))))))))))))))))))
end Lw
set_option Elab.async false
set_option linter.all false
set_option maxRecDepth 100000
set_option maxHeartbeats 4000000
/-! k36, the plain law 3: classes, sorts. -/
namespace Lw
open PySem L2 Ly
open Lx (atI_in shaped_ints Ky)
def tabs : List (List (Str × Bool)) := [iv_InvalidTest, iv_InvalidChange, iv_InvalidAddress, iv_InvalidCommand, iv_InvalidLine, iv_InvalidText, iv_InvalidRoom, iv_InvalidCheckpoint, iv_InvalidSkip, iv_InvalidBlock, iv_Unreadable, iv_InvalidRow, iv_Beyond, iv_OutOfRange, iv_NoName, iv_Nothing, iv_TooMany, iv_Finished]
def fl (t : List (Str × Bool)) (c : Str) : Bool := (t.lookup c).getD false
def flags (c : Str) : List Bool := tabs.map fun t => fl t c
theorem fl_some {c : Str} (h : (tabs.all fun t => (t.lookup c).isSome) = true) : ∀ t ∈ tabs, t.lookup c = some (fl t c) := fun t ht => by
  have := List.all_eq_true.mp h t ht
  unfold fl
  cases e : t.lookup c with
  | none => rw [e] at this; cases this
  | some b => rfl
theorem classes_r {c : Str} {gs : List (Str × D)} (h : (tabs.all fun t => (t.lookup c).isSome) = true) : Rt (g__law_classes [.err c gs]) (.lst ((flags c).map D.bl)) := by
  have hf := fl_some h
  refine Rt.bodyR (Rq.new (δ := [some (.err c gs), none]) (i := 1) (xs := []) Rt.nil (by decide) ?_)
  exact (Rq.ext (ys := [.bl (fl iv_InvalidTest c), .bl (fl iv_InvalidChange c)]) (show 1 < 2 by decide) (show 0 + 2 < 4000 by decide) (fun j => Rt.lst (Rt.cons (Rt.op1 (Rt.var rfl) (Rt.isV (hf _ (by simp [tabs])))) (Rt.cons (Rt.op1 (Rt.var rfl) (Rt.isV (hf _ (by simp [tabs])))) Rt.nil)) (small (show 2 ≤ 4000 by decide)))
    (Rq.ext (ys := [.bl (fl iv_InvalidAddress c), .bl (fl iv_InvalidCommand c)]) (show 1 < 2 by decide) (show 2 + 2 < 4000 by decide) (fun j => Rt.lst (Rt.cons (Rt.op1 (Rt.var rfl) (Rt.isV (hf _ (by simp [tabs])))) (Rt.cons (Rt.op1 (Rt.var rfl) (Rt.isV (hf _ (by simp [tabs])))) Rt.nil)) (small (show 2 ≤ 4000 by decide)))
    (Rq.ext (ys := [.bl (fl iv_InvalidLine c), .bl (fl iv_InvalidText c)]) (show 1 < 2 by decide) (show 4 + 2 < 4000 by decide) (fun j => Rt.lst (Rt.cons (Rt.op1 (Rt.var rfl) (Rt.isV (hf _ (by simp [tabs])))) (Rt.cons (Rt.op1 (Rt.var rfl) (Rt.isV (hf _ (by simp [tabs])))) Rt.nil)) (small (show 2 ≤ 4000 by decide)))
    (Rq.ext (ys := [.bl (fl iv_InvalidRoom c), .bl (fl iv_InvalidCheckpoint c)]) (show 1 < 2 by decide) (show 6 + 2 < 4000 by decide) (fun j => Rt.lst (Rt.cons (Rt.op1 (Rt.var rfl) (Rt.isV (hf _ (by simp [tabs])))) (Rt.cons (Rt.op1 (Rt.var rfl) (Rt.isV (hf _ (by simp [tabs])))) Rt.nil)) (small (show 2 ≤ 4000 by decide)))
    (Rq.ext (ys := [.bl (fl iv_InvalidSkip c), .bl (fl iv_InvalidBlock c)]) (show 1 < 2 by decide) (show 8 + 2 < 4000 by decide) (fun j => Rt.lst (Rt.cons (Rt.op1 (Rt.var rfl) (Rt.isV (hf _ (by simp [tabs])))) (Rt.cons (Rt.op1 (Rt.var rfl) (Rt.isV (hf _ (by simp [tabs])))) Rt.nil)) (small (show 2 ≤ 4000 by decide)))
    (Rq.ext (ys := [.bl (fl iv_Unreadable c), .bl (fl iv_InvalidRow c)]) (show 1 < 2 by decide) (show 10 + 2 < 4000 by decide) (fun j => Rt.lst (Rt.cons (Rt.op1 (Rt.var rfl) (Rt.isV (hf _ (by simp [tabs])))) (Rt.cons (Rt.op1 (Rt.var rfl) (Rt.isV (hf _ (by simp [tabs])))) Rt.nil)) (small (show 2 ≤ 4000 by decide)))
    (Rq.ext (ys := [.bl (fl iv_Beyond c), .bl (fl iv_OutOfRange c)]) (show 1 < 2 by decide) (show 12 + 2 < 4000 by decide) (fun j => Rt.lst (Rt.cons (Rt.op1 (Rt.var rfl) (Rt.isV (hf _ (by simp [tabs])))) (Rt.cons (Rt.op1 (Rt.var rfl) (Rt.isV (hf _ (by simp [tabs])))) Rt.nil)) (small (show 2 ≤ 4000 by decide)))
    (Rq.ext (ys := [.bl (fl iv_NoName c), .bl (fl iv_Nothing c)]) (show 1 < 2 by decide) (show 14 + 2 < 4000 by decide) (fun j => Rt.lst (Rt.cons (Rt.op1 (Rt.var rfl) (Rt.isV (hf _ (by simp [tabs])))) (Rt.cons (Rt.op1 (Rt.var rfl) (Rt.isV (hf _ (by simp [tabs])))) Rt.nil)) (small (show 2 ≤ 4000 by decide)))
    (Rq.ext (ys := [.bl (fl iv_TooMany c), .bl (fl iv_Finished c)]) (show 1 < 2 by decide) (show 16 + 2 < 4000 by decide) (fun j => Rt.lst (Rt.cons (Rt.op1 (Rt.var rfl) (Rt.isV (hf _ (by simp [tabs])))) (Rt.cons (Rt.op1 (Rt.var rfl) (Rt.isV (hf _ (by simp [tabs])))) Rt.nil)) (small (show 2 ≤ 4000 by decide)))
    (Rq.ice (show 1 < 2 by decide) (Rt.rets (Rt.var rfl))))))))))))
end Lw
set_option Elab.async false
set_option linter.all false
set_option maxRecDepth 100000
set_option maxHeartbeats 4000000
/-! k36, the plain law: all together. -/
namespace Lw
open PySem L2 Ly
open Lx (atI_in shaped_ints Ky)
def sorts4 (c : Str) : List (Str × Bool) := [("value", fl iv_ValueError c), ("lookup", fl iv_LookupError c), ("overflow", fl iv_OverflowError c), ("runtime", fl iv_RuntimeError c)]
def okB (c so : Str) : Bool := (tabs.all fun t => (t.lookup c).isSome) && (((flags c).countP id == 1) && ((iv_ValueError.lookup c).isSome && ((iv_LookupError.lookup c).isSome && ((iv_OverflowError.lookup c).isSome && ((iv_RuntimeError.lookup c).isSome && (decide (((sorts4 c).filter (·.2)).map (·.1) = [so]) && so.cps.toList.all fun c => decide (c < 128)))))))
theorem ents_ok (x : D) : ∀ d ∈ ents x, ∃ c gs so, d = ent c gs x so ∧ okB c so = true := by
  intro d hd
  simp only [ents, List.mem_cons, List.not_mem_nil, or_false] at hd
  rcases hd with rfl | rfl | rfl | rfl | rfl | rfl | rfl | rfl | rfl | rfl | rfl | rfl | rfl | rfl | rfl | rfl | rfl | rfl <;> exact ⟨_, _, _, rfl, by decide +kernel⟩
theorem lcT {e0 a1 : Sl} : ∀ (ps : List (Str × Bool)) (k : Nat), k + ps.length ≤ sizeLine → Rt (lcD (dGTup 2 (dGCons (dName 2) (dGCons (dName 3) dGNil))) (dTru (dVar 3)) (dVar 2) [e0, a1, none, none] (ps.map fun p => D.tup [.str p.1, .bl p.2]) k) ((ps.filter (·.2)).map fun p => D.str p.1)
  | [], _, _ => Rt.ret
  | (s, b) :: r, k, hk => by
    have hk2 : k + 1 + r.length ≤ sizeLine := by rw [List.length_cons] at hk; omega
    refine Rt.bind (a := [e0, a1, some (.str s), some (.bl b)]) (Rt.need rfl (Rt.bind Rt.ret (Rt.bind Rt.ret Rt.ret))) (Rt.bind (a := b) (Rt.tru (Rt.var rfl) Rt.ret) ?_)
    cases b with
    | false => rw [List.filter_cons_of_neg (by simp)]; exact lcT r k (by omega)
    | true =>
      rw [List.filter_cons_of_pos rfl, List.map_cons]
      exact Rt.bind (Rt.var rfl) (Rt.need (by omega) (Rt.bind (lcT r (k + 1) hk2) Rt.ret))
theorem sorts_g {c : Str} {gs : List (Str × D)} {b1 b2 b3 b4 : Bool} (v1 : Rt (dIsV iv_ValueError (.err c gs)) (.bl b1)) (v2 : Rt (dIsV iv_LookupError (.err c gs)) (.bl b2)) (v3 : Rt (dIsV iv_OverflowError (.err c gs)) (.bl b3)) (v4 : Rt (dIsV iv_RuntimeError (.err c gs)) (.bl b4)) : Rt (g__law_sorts [.err c gs]) (.lst (([("value", b1), ("lookup", b2), ("overflow", b3), ("runtime", b4)] : List (Str × Bool)).filter (·.2) |>.map fun p => D.str p.1)) := by
  have s1 : Rt (dAsg (dLst (dCons (dOp1 (dIsV iv_ValueError) (dVar 0)) (dCons (dOp1 (dIsV iv_LookupError) (dVar 0)) dNil))) (dName 1) [some (.err c gs), none, none, none]) (.nx [some (.err c gs), some (.lst [.bl b1, .bl b2]), none, none]) :=
    Rt.asg (Rt.lst (Rt.cons (Rt.op1 (Rt.var rfl) v1) (Rt.cons (Rt.op1 (Rt.var rfl) v2) Rt.nil)) (small (show 2 ≤ 4000 by decide)))
  have s2 : Rt (dAsg (dOp2 addD (dVar 1) (dLst (dCons (dOp1 (dIsV iv_OverflowError) (dVar 0)) (dCons (dOp1 (dIsV iv_RuntimeError) (dVar 0)) dNil)))) (dName 1) [some (.err c gs), some (.lst [.bl b1, .bl b2]), none, none]) (.nx [some (.err c gs), some (.lst [.bl b1, .bl b2, .bl b3, .bl b4]), none, none]) :=
    Rt.asg (Rt.op2 (Rt.var rfl) (Rt.lst (Rt.cons (Rt.op1 (Rt.var rfl) v3) (Rt.cons (Rt.op1 (Rt.var rfl) v4) Rt.nil)) (small (show 2 ≤ 4000 by decide))) (Rt.need (small (show 2 + 2 ≤ 4000 by decide)) Rt.ret))
  have s3 : Rt (dZip (dCons (dLst (dCons (dC (.str ("value" : Str))) (dCons (dC (.str ("lookup" : Str))) (dCons (dC (.str ("overflow" : Str))) (dCons (dC (.str ("runtime" : Str))) dNil))))) (dCons (dVar 1) dNil)) [some (.err c gs), some (.lst [.bl b1, .bl b2, .bl b3, .bl b4]), none, none]) (([("value", b1), ("lookup", b2), ("overflow", b3), ("runtime", b4)] : List (Str × Bool)).map fun p => D.tup [.str p.1, .bl p.2]) :=
    Rt.bind (Rt.cons (Rt.lst (Rt.cons Rt.cC (Rt.cons Rt.cC (Rt.cons Rt.cC (Rt.cons Rt.cC Rt.nil)))) (small (show 4 ≤ 4000 by decide))) (Rt.cons (Rt.var rfl) Rt.nil)) Rt.ret
  exact Rt.bodyR (Rt.seq s1 (Rt.seq s2 (Rt.rets (rLc s3 (lcT _ 0 (small (show 0 + 4 ≤ 4000 by decide)))))))
theorem sorts_r {c so : Str} {gs : List (Str × D)} (h : okB c so = true) : Rt (g__law_sorts [.err c gs]) (.lst [.str so]) := by
  unfold okB at h
  simp only [Bool.and_eq_true, decide_eq_true_eq] at h
  obtain ⟨_, _, h1, h2, h3, h4, h5, _⟩ := h
  have f : ∀ {t : List (Str × Bool)}, (t.lookup c).isSome = true → t.lookup c = some (fl t c) := fun {t} q => by
    unfold fl
    cases e : t.lookup c with
    | none => rw [e] at q; cases q
    | some b => rfl
  refine (sorts_g (Rt.isV (f h1)) (Rt.isV (f h2)) (Rt.isV (f h3)) (Rt.isV (f h4))).cast ?_
  have e : (((sorts4 c).filter (·.2)).map fun p => D.str p.1) = ((((sorts4 c).filter (·.2)).map (·.1)).map D.str) := by rw [List.map_map]; rfl
  exact (congrArg D.lst (e.trans (by rw [h5]; rfl)))
theorem count_r {c so : Str} {gs : List (Str × D)} {δ : List Sl} {i : Nat} (h : okB c so = true) (e : δ[i]? = some (some (.err c gs))) : Rt (dCount (dCall 1 g__law_classes (dCons (dVar i) dNil)) (dCons (dC (.bl true)) dNil) δ) (.int 1) := by
  unfold okB at h
  simp only [Bool.and_eq_true, decide_eq_true_eq, beq_iff_eq] at h
  obtain ⟨h0, h1, _⟩ := h
  refine Rt.bind (Rt.call (Rt.cons (Rt.var e) Rt.nil) rfl (classes_r (by simpa using h0))) (Rt.bind (Rt.cons Rt.cC Rt.nil) ?_)
  have hb : bools ((flags c).map D.bl) = some (flags c) := by
    have := bools_map (fun b : Bool => b) (flags c)
    simpa using this
  show Rt (match ([D.bl true] : List D), bools ((flags c).map D.bl) with | [.bl true], some bs => W.ret (D.int (bs.countP id : Nat)) | _, _ => W.stuck) _
  rw [hb]
  exact Rt.ret.cast (by rw [h1]; rfl)
theorem ne_so {so : Str} (h : asc so) : Rt (neD (.lst [.str so]) (.lst [.str so])) (.bl false) := by
  have ht : toP (.lst ([so].map D.str)) = some (.list ([so].map .str)) := by rw [toP, toPs_str]; rfl
  show Rt (match toP (.lst ([so].map D.str)), toP (.lst ([so].map D.str)) with | some a, some b => W.need (SeqAt.shaped a = true ∧ SeqAt.shaped b = true) (W.ret (D.bl (!PyData.eqv a b))) | _, _ => W.stuck) _
  rw [ht]
  have hs : SeqAt.shaped (.list ([so].map .str)) = true := shaped_strs fun x hx => by rw [List.mem_singleton.mp hx]; exact h
  refine Rt.need ⟨hs, hs⟩ (Rt.ret.cast (congrArg D.bl ?_))
  show (!((so == so) && true)) = false
  simp
end Lw
set_option Elab.async false
set_option linter.all false
set_option maxRecDepth 100000
set_option maxHeartbeats 4000000
/-! k36, the plain law: all together. -/
namespace Lw
open PySem L2 Ly
open Lx (atI_in shaped_ints Ky)
/-! ### any value -/
def Cq (p : PyData) : Prop := p.showable = true ∧ p.depth ≤ 60 ∧ p.shown.length ≤ sizeLine
def Rp (x : D) : Prop := ∃ p, toQ x = some p ∧ Cq p ∧ Cq (.list [p, p])
def cqB (p : PyData) : Bool := p.showable && (decide (p.depth ≤ 60) && decide (p.shown.length ≤ 4000))
theorem cqB_ok {p : PyData} (h : cqB p = true) : Cq p := by
  unfold cqB at h
  simp only [Bool.and_eq_true, decide_eq_true_eq] at h
  exact ⟨h.1, h.2.1, small h.2.2⟩
theorem rp {x : D} {p : PyData} (h : toQ x = some p) (h1 : (cqB p && cqB (.list [p, p])) = true) : Rp x := ⟨p, h, cqB_ok (Bool.and_eq_true_iff.mp h1).1, cqB_ok (Bool.and_eq_true_iff.mp h1).2⟩
def rps : List D → Prop
  | [] => True
  | d :: r => Rp d ∧ rps r
theorem rps_mem : ∀ {l : List D}, rps l → ∀ d ∈ l, Rp d
  | d :: r, h, x, hx => by
    rcases List.mem_cons.mp hx with rfl | hx
    · exact h.1
    · exact rps_mem h.2 x hx
theorem any_t : Tm 1 (g__law_any_value [.pen]) Rp := by
  refine tBody (tAsgR (Rt.lst (Rt.cons Rt.cC (Rt.cons Rt.cC (Rt.cons Rt.cC (Rt.cons Rt.cC (Rt.cons Rt.cC (Rt.cons (Rt.op1 Rt.cC Rt.ret) (Rt.cons (Rt.op2 Rt.cC Rt.cC (Rt.need (show CPow 10 59 by unfold CPow; decide) Rt.ret)) (Rt.cons Rt.cC (Rt.cons Rt.cC (Rt.cons Rt.cC (Rt.cons Rt.cC (Rt.cons Rt.cC (Rt.cons (Rt.tup Rt.nil (small (show 0 ≤ 4000 by decide))) (Rt.cons (Rt.tup (Rt.cons Rt.cC Rt.nil) (small (show 1 ≤ 4000 by decide))) (Rt.cons (Rt.lst (Rt.cons Rt.cC (Rt.cons Rt.cC Rt.nil)) (small (show 2 ≤ 4000 by decide))) (Rt.cons Rt.cC (Rt.cons (Rt.lst (Rt.cons Rt.cC Rt.nil) (small (show 1 ≤ 4000 by decide))) Rt.nil))))))))))))))))) (small (show 17 ≤ 4000 by decide))) ?_)
  refine tAsgR (Rt.op2 (Rt.var rfl) (Rt.lst (Rt.cons (Rt.tup (Rt.cons Rt.cC (Rt.cons Rt.cC Rt.nil)) (small (show 2 ≤ 4000 by decide))) (Rt.cons Rt.cC (Rt.cons Rt.cC (Rt.cons (Rt.op2 Rt.cC Rt.cC (Rt.need (by unfold MulOk; decide +kernel) Rt.ret)) (Rt.cons (Rt.op2 Rt.cC Rt.cC (Rt.need (by unfold MulOk; decide +kernel) Rt.ret)) (Rt.cons (Rt.tup (Rt.cons Rt.cC Rt.nil) (small (show 1 ≤ 4000 by decide))) (Rt.cons (Rt.lst (Rt.cons (Rt.lst (Rt.cons Rt.cC Rt.nil) (small (show 1 ≤ 4000 by decide))) Rt.nil) (small (show 1 ≤ 4000 by decide))) (Rt.cons (Rt.tup (Rt.cons Rt.cC (Rt.cons Rt.cC Rt.nil)) (small (show 2 ≤ 4000 by decide))) (Rt.cons Rt.cC (Rt.cons (Rt.lst Rt.nil (small (show 0 ≤ 4000 by decide))) Rt.nil)))))))))) (small (show 10 ≤ 4000 by decide))) (Rt.need (small (show 17 + 10 ≤ 4000 by decide)) Rt.ret)) ?_
  refine tRet (P := Rp) ?_ fun d hd => ⟨d, rfl, hd⟩
  refine (Ly.tCall (Rt.cons (Rt.var rfl) (Rt.cons (Rt.op2 (Rt.var rfl) (Rt.lst (Rt.cons (Rt.tup (Rt.cons Rt.cC (Rt.cons Rt.cC Rt.nil)) (small (show 2 ≤ 4000 by decide))) Rt.nil) (small (show 1 ≤ 4000 by decide))) (Rt.need (small (show 27 + 1 ≤ 4000 by decide)) Rt.ret)) Rt.nil)) rfl (pick_l ?_ ?_)).mono (Nat.le_refl _) (rps_mem ?_)
  · show 1 ≤ 28; decide
  · show 28 ≤ 4000; decide
  have tl : ∀ {d : D} {p : PyData}, toQ d = some p → toQs [d] = some [p] := fun h => by rw [toQs, toQs, h]; rfl
  have tl2 : ∀ {d e : D} {p q : PyData}, toQ d = some p → toQ e = some q → toQs [d, e] = some [p, q] := fun h k => by rw [toQs, toQs, toQs, h, k]; rfl
  have t0 : toQs [] = some [] := by rw [toQs]
  have qs : ∀ s : Str, toQ (.str s) = some (.str s) := fun s => by rw [toQ]
  have qi : ∀ s : Int, toQ (.int s) = some (.int s) := fun s => by rw [toQ]
  have ql : ∀ {l : List D} {ps : List PyData}, toQs l = some ps → toQ (.lst l) = some (.list ps) := fun h => by rw [toQ, h]; rfl
  have qt : ∀ {l : List D} {ps : List PyData}, toQs l = some ps → toQ (.tup l) = some (.tuple ps) := fun h => by rw [toQ, h]; rfl
  exact ⟨rp (by rw [toQ]) (by decide +kernel), rp (by rw [toQ]) (by decide +kernel), rp (by rw [toQ]) (by decide +kernel), rp (qi _) (by decide +kernel), rp (qi _) (by decide +kernel), rp (qi _) (by decide +kernel), rp (qi _) (by decide +kernel), rp (qs _) (by decide +kernel), rp (qs _) (by decide +kernel), rp (qs _) (by decide +kernel), rp (qs _) (by decide +kernel), rp (qs _) (by decide +kernel), rp (qt t0) (by decide +kernel), rp (qt (tl (qs _))) (by decide +kernel), rp (ql (tl2 (qs _) (qs _))) (by decide +kernel), rp (p := .dict []) (by rw [toQ, toQk]; rfl) (by decide +kernel), rp (ql (tl (qi _))) (by decide +kernel),
    rp (qt (tl2 (qs _) (qi _))) (by decide +kernel), rp (p := .dict [(.str "a", .str "b")]) (by rw [toQ, toQk, toQk, toQ]; rfl) (by decide +kernel), rp (qs _) (by decide +kernel), rp (qs _) (by decide +kernel), rp (qs _) (by decide +kernel), rp (qt (tl (qs _))) (by decide +kernel), rp (ql (tl (ql (tl (qs _))))) (by decide +kernel), rp (qt (tl2 (qi _) (qi _))) (by decide +kernel), rp (qs _) (by decide +kernel), rp (ql t0) (by decide +kernel), rp (qt (tl2 (qs _) (qi _))) (by decide +kernel), trivial⟩
end Lw
set_option Elab.async false
set_option linter.all false
set_option maxRecDepth 100000
set_option maxHeartbeats 4000000
/-! k36, the plain law: all together. -/
namespace Lw
open PySem L2 Ly
open Lx (atI_in shaped_ints Ky)
/-! ### the law -/
theorem law_t (ns : List Int) : Tm 8 (b_law (some (.sct ns) :: some .pen :: List.replicate 8 none)) (fun o => o = .rt (.bl true)) := by
  refine Tm.bind (B1 := 8) (B2 := 0) (Q := fun o => ∃ a2 a3 a4 a5 a6 a7 a8 a9, o = .nx [some (.sct ns), some .pen, a2, a3, a4, a5, a6, a7, a8, a9]) ?_ (fun o ho => ?_) (Nat.le_refl _)
  · refine Tm.bindR (rIR (k := 3 + (if ((ns.length : Nat) : Int) < 5 then ((ns.length : Nat) : Int) else 5)) (Rt.cons (Rt.op2 Rt.cC (Rt.opn (Rt.cons Rt.cC (Rt.cons (Rt.opn (Rt.cons (Rt.var rfl) Rt.nil) Rt.ret) Rt.nil)) Rt.ret) Rt.ret) Rt.nil) (by split <;> omega) (by split <;> omega)) ?_
    refine (forD_t (B := 1) (I := fun t δ => ∃ a2 a3 a4 a5 a6 a7 a8 a9, δ = [some (.sct ns), some .pen, a2, a3, a4, a5, a6, a7, a8, a9]) _ _ ⟨_, _, _, _, _, _, _, _, rfl⟩ (fun d t δ hI => ?_)).mono (by rw [rangeD_len]; split <;> omega) (fun o ho => by obtain ⟨ε, rfl, h⟩ := ho; obtain ⟨a2, a3, a4, a5, a6, a7, a8, a9, rfl⟩ := h; exact ⟨_, _, _, _, _, _, _, _, rfl⟩)
    obtain ⟨a2, a3, a4, a5, a6, a7, a8, a9, rfl⟩ := hI
    refine Tm.bindR Rt.ret ?_
    refine tAsg (P := Rp) (B1 := 1) (B2 := 0) (Ly.tCall (Rt.cons (Rt.var rfl) Rt.nil) rfl any_t) (fun x hx => ?_) (Nat.le_refl _)
    obtain ⟨p, hp, c1, c2⟩ := hx
    have hl : toQ (.lst [x, x]) = some (.list [p, p]) := by rw [toQ, toQs, toQs, toQs, hp]; rfl
    refine tAsgR (Rt.opn (Rt.cons (Rt.var rfl) Rt.nil) (Rt.repr hp c1)) ?_
    refine Tm.bindR (rIL (Rt.call (Rt.cons (Rt.var rfl) Rt.nil) rfl (some_errors_r x))) ?_
    refine (forD_t (B := 0) (I := fun t δ => (∀ d ∈ t, ∃ c gs so, d = ent c gs x so ∧ okB c so = true) ∧ ∃ a2 a5 a6 a7 a8 a9, δ = [some (.sct ns), some .pen, a2, some x, some (.str p.shown), a5, a6, a7, a8, a9]) _ _ ⟨ents_ok x, _, _, _, _, _, _, rfl⟩ (fun d t δ hI => ?_)).mono (by omega) (fun o ho => by obtain ⟨ε, rfl, _, h⟩ := ho; obtain ⟨a2, a5, a6, a7, a8, a9, rfl⟩ := h; exact ⟨_, rfl, _, _, _, _, _, _, _, _, rfl⟩)
    obtain ⟨ht, a2, a5, a6, a7, a8, a9, rfl⟩ := hI
    obtain ⟨c, gs, so, rfl, hok⟩ := ht d List.mem_cons_self
    have ha : asc so := by
      unfold okB at hok
      simp only [Bool.and_eq_true] at hok
      exact fun k hk => of_decide_eq_true (List.all_eq_true.mp hok.2.2.2.2.2.2.2 k hk)
    refine Tm.bindR (a := [some (.sct ns), some .pen, a2, some x, some (.str p.shown), some (.err c gs), some x, some x, some (.str so), a9]) (Rt.need rfl (Rt.bind Rt.ret (Rt.bind Rt.ret (Rt.bind Rt.ret (Rt.bind Rt.ret Rt.ret))))) ?_
    refine Tm.of (Rt.seq (Rt.ifF (Rt.orF (Rt.test ((Rt.op2 (z := .bl false) (Rt.opn (Rt.cons (Rt.lst (Rt.cons (Rt.var rfl) (Rt.cons (Rt.var rfl) Rt.nil)) (small (show 2 ≤ 4000 by decide))) Rt.nil) (Rt.repr hl c2)) (Rt.opn (Rt.cons (Rt.lst (Rt.cons (Rt.var rfl) (Rt.cons (Rt.var rfl) Rt.nil)) (small (show 2 ≤ 4000 by decide))) Rt.nil) (Rt.repr hl c2)) (Rt.ret.cast (congrArg D.bl (by simp)))))) (Rt.test (Rt.op2 (Rt.call (Rt.cons (Rt.var rfl) Rt.nil) rfl (sorts_r hok)) (Rt.lst (Rt.cons (Rt.var rfl) Rt.nil) (small (show 1 ≤ 4000 by decide))) (ne_so ha)))) Rt.next)
      (Rt.ifF (Rt.orF (Rt.test ((Rt.op2 (z := .bl false) (count_r hok rfl) Rt.cC (Rt.ret.cast (congrArg D.bl (by decide)))))) (Rt.test ((Rt.op2 (z := .bl false) (Rt.opn (Rt.cons (Rt.var rfl) Rt.nil) (Rt.repr hp c1)) (Rt.var rfl) (Rt.ret.cast (congrArg D.bl (by simp))))))) Rt.next)) ⟨_, rfl, fun d hd => ht d (List.mem_cons_of_mem _ hd), _, _, _, _, _, _, rfl⟩
  · obtain ⟨a2, a3, a4, a5, a6, a7, a8, a9, rfl⟩ := ho
    have t8 : toQ (.lst (([8, 20, 8, 12, 3, 32, 10, 4] : List Int).map D.int)) = some (.list (([8, 20, 8, 12, 3, 32, 10, 4] : List Int).map .int)) := by
      have : ∀ l : List Int, toQs (l.map D.int) = some (l.map PyData.int) := fun l => by
        induction l with
        | nil => rw [List.map_nil, toQs]; rfl
        | cons a r ih => rw [List.map_cons, toQs, ih, toQ]; rfl
      rw [toQ, this]; rfl
    have ti : ∀ i : Int, toQ (.int i) = some (.int i) := fun i => by rw [toQ]
    refine tAsgR (d := .lst (([8, 20, 8, 12, 3, 32, 10, 4] : List Int).map D.int)) (Rt.lst (Rt.cons Rt.cC (Rt.cons Rt.cC (Rt.cons Rt.cC (Rt.cons Rt.cC (Rt.cons Rt.cC (Rt.cons Rt.cC (Rt.cons Rt.cC (Rt.cons Rt.cC Rt.nil)))))))) (small (show 8 ≤ 4000 by decide))) ?_
    refine Tm.of (Rt.rets ((Rt.andV (b := true) (c := true) ((Rt.op2 (z := .bl true) (Rt.opn (Rt.cons (Rt.var rfl) Rt.nil) (Rt.repr t8 (cqB_ok (by decide +kernel)))) Rt.cC (Rt.ret.cast (congrArg D.bl (by decide +kernel))))) fun _ => (Rt.op2 (z := .bl true) (Rt.opn (Rt.cons Rt.cC Rt.nil) (Rt.repr (ti _) (cqB_ok (by decide +kernel)))) (Rt.opn (Rt.cons (Rt.op2 Rt.cC Rt.cC (Rt.need (show CPow 10 30 by unfold CPow; decide) Rt.ret)) Rt.nil) (Rt.repr (ti _) (cqB_ok (by decide +kernel)))) (Rt.ret.cast (congrArg D.bl (by decide +kernel))))).cast rfl)) rfl
theorem plain (ns : List Int) : (b_law (some (.sct ns) :: some .pen :: List.replicate 8 none)).wp ⟨2 ^ 60, []⟩ (fun _ o => o = .rt (.bl true)) (fun _ _ => False) := (law_t ns).wp (show 8 ≤ 2 ^ 60 by decide)
end Lw
set_option Elab.async false
set_option linter.all false
set_option maxRecDepth 100000
set_option maxHeartbeats 0
namespace Lw
open PySem PySem.Spec PyProof.Rows L2 He Ly
abbrev R : PySem.W.OpenRow := PySem.W.OpenLaw.row PySem.Challenge.rw_linestream_k36_errors_and_limits
abbrev hk : PySem.W.Hook := hookY 7 file fa fn
def ob (s : PySem.W.SharedT) : AlY := obsYG 7 file fa fn (HandSHeadRun.getT s)
theorem ob_eq (s : PySem.W.SharedT) : ob s = hk.obs s.abs := obsYG_eq (HandSHeadRun.getT_eq s)
def names0 : List PySem.Str := ["__name__", "InvalidTest", "InvalidChange", "InvalidAddress", "InvalidCommand", "InvalidLine", "InvalidText", "InvalidRoom", "InvalidCheckpoint", "InvalidSkip", "InvalidBlock", "Unreadable", "InvalidRow", "Beyond", "OutOfRange", "NoName", "Nothing", "TooMany", "Finished", "MAX_WORD", "MAX_LINE", "MAX_DEPTH", "MAX_COMMANDS", "MAX_ROOM", "MAX_CLASSES", "MAX_BLOCKS", "MAX_LINES", "MAX_TIMES", "_law_pen", "_law_draw"]
def names1 : List PySem.Str := ["_law_pick", "_law_any_value", "_law_some_errors", "_law_classes", "_law_sorts"]
def names : List PySem.Str := names0 ++ names1
theorem run (w : World) : HandSHeadRun.RunEq R (PySem.W.view R.prog [36]) hk ob 12000 names w := by
  intro os
  kernel_rfl
end Lw
set_option Elab.async false
set_option linter.all false
set_option maxRecDepth 100000
set_option maxHeartbeats 0
open PySem PySem.W PySem.Calls PyProof.Rows
theorem PySem.Challenge.cw_linestream_k36_errors_and_limits_holds : PySem.Challenge.rw_linestream_k36_errors_and_limits.Holds := by
  w_on; o_law
  refine HandSHeadRun.head_any (r := OpenLaw.row PySem.Challenge.rw_linestream_k36_errors_and_limits) (q := view (OpenLaw.row PySem.Challenge.rw_linestream_k36_errors_and_limits).prog [36]) (H := Lw.hk) (ob := Lw.ob) (M := 12000) (loose := Lw.names) (d := HandSHeadRun.topDef (OpenLaw.row PySem.Challenge.rw_linestream_k36_errors_and_limits).prog 36) (kwd := []) Lw.ob_eq
    (by kernel_rfl) (fun s => by kernel_rfl) Lw.run (by kernel_rfl) (by kernel_rfl) (by kernel_rfl) (by rfl) (by first | assumption | decide +kernel) (by decide +kernel) ⟨rfl, rfl, rfl, rfl, rfl, by decide +kernel⟩ ?hw ?hc
  case hw => w_witness2
  case hc =>
    refine Ly.walk_T (l := PySem.Challenge.rw_linestream_k36_errors_and_limits) (n := 63) (k := 26) (x := "_law_script") (CX := fun w => L2.CX PySem.Challenge.pw_linestream_k36_errors_and_limits w) rfl (by decide) (by kernel_rfl) ⟨rfl, by decide, by decide⟩ ?F (fun _ _ _ _ _ ⟨_, _, _, _, _, _, _, _, _, _, _, _, z⟩ => z)
    intro w mg fa h Y G hmg0
    obtain ⟨K, KX, c, tY, smY⟩ := Y
    have hmg : mg ("law" : PySem.Str) = some (.ref fa) := by
      have e : (HandSHeadRun.topDef (OpenLaw.row PySem.Challenge.rw_linestream_k36_errors_and_limits).prog 36).name = ("law" : PySem.Str) := by kernel_rfl
      rw [← e]
      exact hmg0
    have en : Lw.En K mg := ⟨c, h, KX, G⟩
    obtain ⟨fd, F⟩ := Lw.d_law en
    have e := hmg.symm.trans (Lw.gl_law en)
    cases e
    have b := L2.FunD.bindsA (ps := ["_law_script"]) F fun _ _ _ _ _ _ us hl => match us, hl with | [_], _ => rfl
    exact ⟨K, fd, Ly.spLaw K, KX, tY, smY, fun s v => b s [v] rfl, fun H a ns hl hT hS => ⟨a, ns, rfl, hS, hT, fun _ => rfl⟩, fun base _ _ tb sm => Lw.fg_law en tb sm F Lw.plain⟩
